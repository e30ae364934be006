import PyProof.Rows.All
import Wide.All
import OpenK.AllK
import Wide.FinOn
import HandS.ForMost
import HandS.ForExc
import HandS.ExcCtx
import HandS.HotCalls
import HandS.Wide
import HandS.Gcd
import HandS.IsInst
import HandS.TupAny
import HandS.Style
import HandS.Flow
import HandS.More
import HandS.RaiseMore
import HandS.CallSlots
import HandS.Defaults
import HandS.Star
import KE.KExcInit
import KE.KExcSuper
import KE.KSuper
import HandS.Base
import HandS.Call
import HandS.Exc
import HandS.ExcSuper
import HandS.ExcInit
import HandS.ExcField
import HandS.ExcIs
import KE.KExcIs
import HandS.Head0
import HandS.Head1
import HandS.Head2
import HandS.HeadEnd
import HandS.HeadHook1
import HandS.HeadHook2
import HandS.Words
import HandS.WordsExc
import HandS.Text
import HandS.StrMore
import HandS.FStr
import HandS.Comp
import HandS.Zip
import HandS.Iter
import HandS.List
import HandS.TupMul
import HandS.Head3
import PyProof.Rows.StrLawsPart
import KE.IntTextLaws
import PySem.Challenge.RW_pagefit_k03_forms_at_points
set_option Elab.async false
set_option linter.all false
set_option maxRecDepth 100000
set_option maxHeartbeats 4000000
/-! MP: programs over plain data. A value is a datum D (tuples are data, lists are places of a store S); every construct
has a denotation, a plain function of environment and store; each rule says that HandS's judgement holds with the reading
that the denotation gives. -/
namespace MP
open PySem L2

inductive D where
  | non | bl (b : Bool) | int (i : Int) | str (x : Str) | tup (xs : List D) | loc (n : Nat)
  deriving Inhabited
/-- a list; a list that is only read; the own dict of an exception -/
inductive Ob where
  | lst (ds : List D) | fz (ds : List D) | xd (fs : List (Str × D)) | nu
  deriving Inhabited
abbrev S := List Ob
/-- an exception: its class's name, the place of its own dict -/
structure Ex where
  cls : Str
  at_ : Nat

/-! ### representation -/
section
variable (K : PySem.W.Frag) (m : Nat → Addr) (n : Nat) (H : Hp)
mutual
def RV : D → V → Prop
  | .non, v => v = .non
  | .bl b, v => v = .bl b
  | .int i, v => v = .int i
  | .str x, v => v = .str x
  | .loc k, v => k < n ∧ v = .ref (m k)
  | .tup ds, v => ∃ a vs, v = .ref a ∧ SqT K H a vs ∧ RVs ds vs
def RVs : List D → List V → Prop
  | [], vs => vs = []
  | d :: ds, vs => ∃ v r, vs = v :: r ∧ RV d v ∧ RVs ds r
end
end

/-- a list of the written part, or a locked one -/
def FzL (K : PySem.W.Frag) (H : Hp) (a : Addr) (xs : List V) : Prop :=
  (∃ o, H a = some (.frz o (.lst xs))) ∨
    ∃ (o : Obj) (its : Array Value) (n : Nat), K.lookup a = some o ∧ o.cls = .type "list" ∧ o.dict = none ∧ o.data = .seq its n ∧ its.size ≤ sizeLine ∧ Vals xs its.toList
theorem FzL.seq {K : PySem.W.Frag} {H : Hp} {a : Addr} {xs : List V} (h : FzL K H a xs) : SqL K H a xs := by
  rcases h with ⟨o, h⟩ | h
  · exact .inl (.inr ⟨o, h⟩)
  · exact .inr h

def RO (K : PySem.W.Frag) (m : Nat → Addr) (n : Nat) (H : Hp) : Ob → Addr → Prop
  | .lst ds, a => ∃ vs, H a = some (.lst vs) ∧ RVs K m n H ds vs
  | .fz ds, a => ∃ vs, FzL K H a vs ∧ RVs K m n H ds vs
  | .xd fs, a => ∃ vs, H a = some (.xd ((fs.map (·.1)).zip vs)) ∧ RVs K m n H (fs.map (·.2)) vs
  | .nu, _ => True
def Ob.mut : Ob → Bool
  | .lst _ => true
  | .fz _ => false
  | .xd _ => false
  | .nu => false
structure RS (K : PySem.W.Frag) (m : Nat → Addr) (st : S) (H : Hp) : Prop where
  at_ : ∀ k o, st[k]? = some o → RO K m st.length H o (m k)
  inj : ∀ i j oi oj, st[i]? = some oi → st[j]? = some oj → oi.mut = true → oj.mut = true → m i = m j → i = j

/-- what holds of values ahead holds behind -/
def Mn (K : PySem.W.Frag) (m : Nat → Addr) (n : Nat) (H : Hp) (m' : Nat → Addr) (n' : Nat) (H' : Hp) : Prop :=
  ∀ d v, RV K m n H d v → RV K m' n' H' d v
theorem Mn.refl {K : PySem.W.Frag} {m : Nat → Addr} {n : Nat} {H : Hp} : Mn K m n H m n H := fun _ _ h => h
theorem Mn.trans {K : PySem.W.Frag} {m m1 m2 : Nat → Addr} {n n1 n2 : Nat} {H H1 H2 : Hp} (a : Mn K m n H m1 n1 H1) (b : Mn K m1 n1 H1 m2 n2 H2) : Mn K m n H m2 n2 H2 :=
  fun d v h => b d v (a d v h)
theorem Mn.all {K : PySem.W.Frag} {m m' : Nat → Addr} {n n' : Nat} {H H' : Hp} (a : Mn K m n H m' n' H') : ∀ {ds : List D} {vs : List V}, RVs K m n H ds vs → RVs K m' n' H' ds vs
  | [], vs, h => h
  | d :: ds, vs, h => by
    obtain ⟨v, r, e, h1, h2⟩ := h
    exact ⟨v, r, e, a d v h1, Mn.all a h2⟩

section
variable {K : PySem.W.Frag} {m m' : Nat → Addr} {n n' : Nat} {H H' : Hp}
mutual
theorem rv_mono (ht : ∀ a vs, SqT K H a vs → SqT K H' a vs) (hn : n ≤ n') (hm : ∀ k, k < n → m' k = m k) : ∀ (d : D) (v : V), RV K m n H d v → RV K m' n' H' d v
  | .non, v, h => h
  | .bl b, v, h => h
  | .int i, v, h => h
  | .str x, v, h => h
  | .loc k, v, h => by
    obtain ⟨h1, h2⟩ := h
    exact ⟨Nat.lt_of_lt_of_le h1 hn, by rw [hm k h1]; exact h2⟩
  | .tup ds, v, h => by
    obtain ⟨a, vs, e, h1, h2⟩ := h
    exact ⟨a, vs, e, ht a vs h1, rvs_mono ht hn hm ds vs h2⟩
theorem rvs_mono (ht : ∀ a vs, SqT K H a vs → SqT K H' a vs) (hn : n ≤ n') (hm : ∀ k, k < n → m' k = m k) : ∀ (ds : List D) (vs : List V), RVs K m n H ds vs → RVs K m' n' H' ds vs
  | [], vs, h => h
  | d :: ds, vs, h => by
    obtain ⟨v, r, e, h1, h2⟩ := h
    exact ⟨v, r, e, rv_mono ht hn hm d v h1, rvs_mono ht hn hm ds r h2⟩
end
theorem Mn.of (ht : ∀ a vs, SqT K H a vs → SqT K H' a vs) (hn : n ≤ n') (hm : ∀ k, k < n → m' k = m k) : Mn K m n H m' n' H' := rv_mono ht hn hm
end

theorem sqt_upd {K : PySem.W.Frag} {H : Hp} {p : Addr} {o : HO} (hp : ∀ xs, ¬ Rd H p (.tup xs)) {a : Addr} {vs : List V} (h : SqT K H a vs) : SqT K (upd H p o) a vs := by
  rcases h with h | h
  · have ne : a ≠ p := fun e => hp vs (e ▸ h)
    rcases h with h | ⟨o', h⟩
    · exact .inl (.inl (by rw [upd_ne ne]; exact h))
    · exact .inl (.inr ⟨o', by rw [upd_ne ne]; exact h⟩)
  · exact .inr h
theorem nord_none {H : Hp} {p : Addr} (h : H p = none) (xs : List V) : ¬ Rd H p (.tup xs) := by
  rintro (q | ⟨o, q⟩) <;> rw [h] at q <;> cases q
theorem nord_lst {H : Hp} {p : Addr} {ys : List V} (h : H p = some (.lst ys)) (xs : List V) : ¬ Rd H p (.tup xs) := by
  rintro (q | ⟨o, q⟩) <;> rw [h] at q <;> cases q
theorem fz_upd {K : PySem.W.Frag} {H : Hp} {p : Addr} {o : HO} (hp : ∀ b xs, H p ≠ some (.frz b (.lst xs))) {a : Addr} {vs : List V} (h : FzL K H a vs) : FzL K (upd H p o) a vs := by
  rcases h with ⟨b, h⟩ | h
  · have ne : a ≠ p := fun e => hp b vs (e ▸ h)
    exact .inl ⟨b, by rw [upd_ne ne]; exact h⟩
  · exact .inr h

section
variable {K : PySem.W.Frag} {m : Nat → Addr} {st : S} {H : Hp}
/-- a new tuple (or another object that no place names) is laid -/
theorem RS.laid (r : RS K m st H) {p : Addr} {o : HO} (hp : H p = none) : RS K m st (upd H p o) ∧ Mn K m st.length H m st.length (upd H p o) := by
  have mn : Mn K m st.length H m st.length (upd H p o) := Mn.of (fun a vs h => sqt_upd (nord_none hp) h) (Nat.le_refl _) (fun _ _ => rfl)
  refine ⟨⟨fun k ob e => ?_, r.inj⟩, mn⟩
  have h := r.at_ k ob e
  cases ob with
  | lst ds =>
    obtain ⟨vs, h1, h2⟩ := h
    have ne : m k ≠ p := fun q => by rw [q, hp] at h1; cases h1
    exact ⟨vs, by rw [upd_ne ne]; exact h1, mn.all h2⟩
  | fz ds =>
    obtain ⟨vs, h1, h2⟩ := h
    exact ⟨vs, fz_upd (fun b xs q => by rw [hp] at q; cases q) h1, mn.all h2⟩
  | xd fs =>
    obtain ⟨vs, h1, h2⟩ := h
    have ne : m k ≠ p := fun q => by rw [q, hp] at h1; cases h1
    exact ⟨vs, by rw [upd_ne ne]; exact h1, mn.all h2⟩
  | nu => trivial
/-- a new object gets the next place -/
theorem RS.pushO (r : RS K m st H) {p : Addr} (hp : H p = none) {ob : Ob} {u : HO} (hv : ∀ m' n' H', H' p = some u → Mn K m st.length H m' n' H' → RO K m' n' H' ob p) :
    ∃ m', m' st.length = p ∧ RS K m' (st ++ [ob]) (upd H p u) ∧ Mn K m st.length H m' (st ++ [ob]).length (upd H p u) := by
  have hl : (st ++ [ob]).length = st.length + 1 := by simp
  have mn : Mn K m st.length H (fun k => if k = st.length then p else m k) (st ++ [ob]).length (upd H p u) :=
    Mn.of (fun a vs h => sqt_upd (nord_none hp) h) (by rw [hl]; omega) (fun k hk => by rw [if_neg (by omega)])
  refine ⟨fun k => if k = st.length then p else m k, by simp, ⟨fun k ob' e => ?_, fun i j oi oj ei ej mi mj q => ?_⟩, mn⟩
  · by_cases hk : k = st.length
    · subst hk
      simp at e
      subst e
      show RO K _ _ _ ob (if st.length = st.length then p else m st.length)
      rw [if_pos rfl]
      exact hv _ _ _ upd_same mn
    · have hk2 : k < st.length := by
        have := (List.getElem?_eq_some_iff.mp e).1
        rw [hl] at this
        omega
      rw [List.getElem?_append_left hk2] at e
      have h := r.at_ k ob' e
      show RO K _ _ _ ob' (if k = st.length then p else m k)
      rw [if_neg hk]
      cases ob' with
      | lst ds' =>
        obtain ⟨vs', h1, h2⟩ := h
        have ne : m k ≠ p := fun q => by rw [q, hp] at h1; cases h1
        exact ⟨vs', by rw [upd_ne ne]; exact h1, mn.all h2⟩
      | fz ds' =>
        obtain ⟨vs', h1, h2⟩ := h
        exact ⟨vs', fz_upd (fun b xs q => by rw [hp] at q; cases q) h1, mn.all h2⟩
      | xd fs =>
        obtain ⟨vs', h1, h2⟩ := h
        have ne : m k ≠ p := fun q => by rw [q, hp] at h1; cases h1
        exact ⟨vs', by rw [upd_ne ne]; exact h1, mn.all h2⟩
      | nu => trivial
  · have old : ∀ k o, (st ++ [ob])[k]? = some o → k ≠ st.length → st[k]? = some o := fun k o e hk => by
      have hk2 : k < st.length := by
        have := (List.getElem?_eq_some_iff.mp e).1
        rw [hl] at this
        omega
      rw [List.getElem?_append_left hk2] at e
      exact e
    have far : ∀ k o, st[k]? = some o → o.mut = true → m k ≠ p := fun k o e hm q => by
      have h := r.at_ k o e
      cases o with
      | lst ds' =>
        obtain ⟨vs', h1, h2⟩ := h
        rw [q, hp] at h1; cases h1
      | fz ds' => cases hm
      | xd fs => cases hm
      | nu => cases hm
    have q' : (if i = st.length then p else m i) = (if j = st.length then p else m j) := q
    by_cases hi : i = st.length
    · by_cases hj : j = st.length
      · rw [hi, hj]
      · rw [if_pos hi, if_neg hj] at q'
        exact absurd q'.symm (far j oj (old j oj ej hj) mj)
    · by_cases hj : j = st.length
      · rw [if_neg hi, if_pos hj] at q'
        exact absurd q' (far i oi (old i oi ei hi) mi)
      · rw [if_neg hi, if_neg hj] at q'
        exact r.inj i j oi oj (old i oi ei hi) (old j oj ej hj) mi mj q'
theorem RS.push (r : RS K m st H) {p : Addr} (hp : H p = none) {ds : List D} {vs : List V} (hv : RVs K m st.length H ds vs) :
    ∃ m', m' st.length = p ∧ RS K m' (st ++ [.lst ds]) (upd H p (.lst vs)) ∧ Mn K m st.length H m' (st ++ [Ob.lst ds]).length (upd H p (.lst vs)) :=
  r.pushO hp fun _ _ _ e mn => ⟨vs, e, mn.all hv⟩
theorem RS.pushX (r : RS K m st H) {p : Addr} (hp : H p = none) {fs : List (Str × D)} {vs : List V} (hv : RVs K m st.length H (fs.map (·.2)) vs) :
    ∃ m', m' st.length = p ∧ RS K m' (st ++ [.xd fs]) (upd H p (.xd ((fs.map (·.1)).zip vs))) ∧ Mn K m st.length H m' (st ++ [Ob.xd fs]).length (upd H p (.xd ((fs.map (·.1)).zip vs))) :=
  r.pushO hp fun _ _ _ e mn => ⟨vs, e, mn.all hv⟩
/-- an address gets a place, nothing is said of it -/
theorem RS.pushN (r : RS K m st H) (p : Addr) : ∃ m', m' st.length = p ∧ RS K m' (st ++ [.nu]) H ∧ Mn K m st.length H m' (st ++ [Ob.nu]).length H := by
  have hl : (st ++ [Ob.nu]).length = st.length + 1 := by simp
  have mn : Mn K m st.length H (fun k => if k = st.length then p else m k) (st ++ [Ob.nu]).length H :=
    Mn.of (fun a vs h => h) (by rw [hl]; omega) (fun k hk => by rw [if_neg (by omega)])
  have old : ∀ k o, (st ++ [Ob.nu])[k]? = some o → k ≠ st.length → k < st.length ∧ st[k]? = some o := fun k o e hk => by
    have hk2 : k < st.length := by
      have := (List.getElem?_eq_some_iff.mp e).1
      rw [hl] at this
      omega
    rw [List.getElem?_append_left hk2] at e
    exact ⟨hk2, e⟩
  have mut_old : ∀ k o, (st ++ [Ob.nu])[k]? = some o → o.mut = true → k < st.length ∧ st[k]? = some o := fun k o e hm => by
    by_cases hk : k = st.length
    · subst hk
      simp at e
      subst e
      cases hm
    · exact old k o e hk
  refine ⟨fun k => if k = st.length then p else m k, by simp, ⟨fun k ob' e => ?_, fun i j oi oj ei ej mi mj q => ?_⟩, mn⟩
  · by_cases hk : k = st.length
    · subst hk
      simp at e
      subst e
      trivial
    · obtain ⟨hk2, e⟩ := old k ob' e hk
      have h := r.at_ k ob' e
      show RO K _ _ _ ob' (if k = st.length then p else m k)
      rw [if_neg hk]
      cases ob' with
      | lst ds' =>
        obtain ⟨vs', h1, h2⟩ := h
        exact ⟨vs', h1, mn.all h2⟩
      | fz ds' =>
        obtain ⟨vs', h1, h2⟩ := h
        exact ⟨vs', h1, mn.all h2⟩
      | xd fs =>
        obtain ⟨vs', h1, h2⟩ := h
        exact ⟨vs', h1, mn.all h2⟩
      | nu => trivial
  · obtain ⟨hi, ei⟩ := mut_old i oi ei mi
    obtain ⟨hj, ej⟩ := mut_old j oj ej mj
    have q' : (if i = st.length then p else m i) = (if j = st.length then p else m j) := q
    rw [if_neg (by omega), if_neg (by omega)] at q'
    exact r.inj i j oi oj ei ej mi mj q'
/-- a list is changed -/
theorem RS.write (r : RS K m st H) {k : Nat} {ds0 ds : List D} {vs : List V} (e0 : st[k]? = some (.lst ds0)) (hv : RVs K m st.length H ds vs) :
    RS K m (st.set k (.lst ds)) (upd H (m k) (.lst vs)) ∧ Mn K m st.length H m (st.set k (.lst ds)).length (upd H (m k) (.lst vs)) := by
  obtain ⟨vs0, h0, _⟩ := r.at_ k _ e0
  have hl : (st.set k (.lst ds)).length = st.length := by simp
  have hk : k < st.length := (List.getElem?_eq_some_iff.mp e0).1
  have mn : Mn K m st.length H m (st.set k (.lst ds)).length (upd H (m k) (.lst vs)) :=
    Mn.of (fun a vs h => sqt_upd (nord_lst h0) h) (by rw [hl]; omega) (fun _ _ => rfl)
  have old : ∀ i ob, (st.set k (.lst ds))[i]? = some ob → i ≠ k → st[i]? = some ob := fun i ob e hi => by
    rw [List.getElem?_set_ne (Ne.symm hi)] at e; exact e
  refine ⟨⟨fun i ob e => ?_, fun i j oi oj ei ej mi mj q => ?_⟩, mn⟩
  · by_cases hi : i = k
    · subst hi
      rw [List.getElem?_set_self hk] at e
      cases e
      exact ⟨vs, upd_same, mn.all hv⟩
    · have e' := old i ob e hi
      have h := r.at_ i ob e'
      cases ob with
      | lst ds' =>
        obtain ⟨vs', h1, h2⟩ := h
        have ne : m i ≠ m k := fun q => hi (r.inj i k _ _ e' e0 rfl rfl q)
        exact ⟨vs', by rw [upd_ne ne]; exact h1, mn.all h2⟩
      | fz ds' =>
        obtain ⟨vs', h1, h2⟩ := h
        exact ⟨vs', fz_upd (fun b xs q => by rw [h0] at q; cases q) h1, mn.all h2⟩
      | xd fs =>
        obtain ⟨vs', h1, h2⟩ := h
        have ne : m i ≠ m k := fun q => by rw [q, h0] at h1; cases h1
        exact ⟨vs', by rw [upd_ne ne]; exact h1, mn.all h2⟩
      | nu => trivial
  · have mm : ∀ (i : Nat) (oi : Ob), (st.set k (Ob.lst ds))[i]? = some oi → oi.mut = true → ∃ o' : Ob, st[i]? = some o' ∧ o'.mut = true := fun i oi e hm => by
      by_cases hi : i = k
      · exact ⟨_, hi ▸ e0, rfl⟩
      · exact ⟨oi, old i oi e hi, hm⟩
    obtain ⟨a, ea, ma⟩ := mm i oi ei mi
    obtain ⟨b, eb, mb⟩ := mm j oj ej mj
    exact r.inj i j a b ea eb ma mb q
end
/-! ### environments -/
abbrev En := List (Option D)
/-- gh: data that stand for values beside the slots -/
structure RE (gh : List (D × V)) (K : PySem.W.Frag) (m : Nat → Addr) (n : Nat) (H : Hp) (ρ : En) (σ : L2.St) : Prop where
  len : ρ.length = σ.length
  get : ∀ (i : Nat) (d : D), ρ[i]? = some (some d) → ∃ v, σ[i]? = some (some v) ∧ RV K m n H d v
  gho : ∀ p ∈ gh, RV K m n H p.1 p.2
section
variable {K : PySem.W.Frag} {m m' : Nat → Addr} {n n' : Nat} {H H' : Hp} {ρ : En} {σ : L2.St} {gh : List (D × V)}
theorem RE.mono (r : RE gh K m n H ρ σ) (mn : Mn K m n H m' n' H') : RE gh K m' n' H' ρ σ :=
  ⟨r.len, fun i d e => by obtain ⟨v, h1, h2⟩ := r.get i d e; exact ⟨v, h1, mn d v h2⟩, fun p hp => mn _ _ (r.gho p hp)⟩
theorem RE.set (r : RE gh K m n H ρ σ) {i : Nat} {d : D} {v : V} (h : RV K m n H d v) : RE gh K m n H (ρ.set i (some d)) (σ.set i (some v)) := by
  refine ⟨by simp [r.len], fun j e hj => ?_, r.gho⟩
  by_cases q : j = i
  · subst q
    have hl : j < ρ.length := by
      have := (List.getElem?_eq_some_iff.mp hj).1
      simpa using this
    rw [List.getElem?_set_self hl] at hj
    cases hj
    exact ⟨v, by rw [List.getElem?_set_self (r.len ▸ hl)], h⟩
  · rw [List.getElem?_set_ne (Ne.symm q)] at hj
    obtain ⟨w, h1, h2⟩ := r.get j e hj
    exact ⟨w, by rw [List.getElem?_set_ne (Ne.symm q)]; exact h1, h2⟩
theorem RE.drop (r : RE gh K m n H ρ σ) {i : Nat} : RE gh K m n H (ρ.set i none) (σ.set i none) := by
  refine ⟨by simp [r.len], fun j e hj => ?_, r.gho⟩
  by_cases q : j = i
  · subst q
    have hl : j < ρ.length := by
      have := (List.getElem?_eq_some_iff.mp hj).1
      simpa using this
    rw [List.getElem?_set_self hl] at hj
    cases hj
  · rw [List.getElem?_set_ne (Ne.symm q)] at hj
    obtain ⟨w, h1, h2⟩ := r.get j e hj
    exact ⟨w, by rw [List.getElem?_set_ne (Ne.symm q)]; exact h1, h2⟩
theorem RE.forget (r : RE gh K m n H ρ σ) {i : Nat} {x : Option V} : RE gh K m n H (ρ.set i none) (σ.set i x) := by
  refine ⟨by simp [r.len], fun j e hj => ?_, r.gho⟩
  by_cases q : j = i
  · subst q
    have hl : j < ρ.length := by
      have := (List.getElem?_eq_some_iff.mp hj).1
      simpa using this
    rw [List.getElem?_set_self hl] at hj
    cases hj
  · rw [List.getElem?_set_ne (Ne.symm q)] at hj
    obtain ⟨w, h1, h2⟩ := r.get j e hj
    exact ⟨w, by rw [List.getElem?_set_ne (Ne.symm q)]; exact h1, h2⟩
end
theorem RVs.len {K : PySem.W.Frag} {m : Nat → Addr} {n : Nat} {H : Hp} : ∀ {ds : List D} {vs : List V}, RVs K m n H ds vs → ds.length = vs.length
  | [], vs, h => by cases h; rfl
  | d :: ds, vs, h => by
    obtain ⟨v, r, e, _, h2⟩ := h
    subst e
    simp [RVs.len h2]
theorem RVs.get {K : PySem.W.Frag} {m : Nat → Addr} {n : Nat} {H : Hp} : ∀ {ds : List D} {vs : List V} {i : Nat} {d : D}, RVs K m n H ds vs → ds[i]? = some d → ∃ v, vs[i]? = some v ∧ RV K m n H d v
  | [], vs, i, d, h, e => by simp at e
  | d' :: ds, vs, 0, d, h, e => by
    obtain ⟨v, r, e1, h1, h2⟩ := h
    subst e1
    simp at e
    subst e
    exact ⟨v, rfl, h1⟩
  | d' :: ds, vs, i + 1, d, h, e => by
    obtain ⟨v, r, e1, h1, h2⟩ := h
    subst e1
    obtain ⟨w, h3, h4⟩ := RVs.get (i := i) h2 (by simpa using e)
    exact ⟨w, by simpa using h3, h4⟩
theorem RVs.app {K : PySem.W.Frag} {m : Nat → Addr} {n : Nat} {H : Hp} : ∀ {ds es : List D} {vs ws : List V}, RVs K m n H ds vs → RVs K m n H es ws → RVs K m n H (ds ++ es) (vs ++ ws)
  | [], es, vs, ws, h, h' => by cases h; exact h'
  | d :: ds, es, vs, ws, h, h' => by
    obtain ⟨v, r, e, h1, h2⟩ := h
    subst e
    exact ⟨v, r ++ ws, rfl, h1, RVs.app h2 h'⟩
theorem RVs.one {K : PySem.W.Frag} {m : Nat → Addr} {n : Nat} {H : Hp} {d : D} {v : V} (h : RV K m n H d v) : RVs K m n H [d] [v] := ⟨v, [], rfl, h, rfl⟩
theorem RVs.set {K : PySem.W.Frag} {m : Nat → Addr} {n : Nat} {H : Hp} {d : D} {v : V} (h : RV K m n H d v) : ∀ {ds : List D} {vs : List V} (i : Nat), RVs K m n H ds vs → RVs K m n H (ds.set i d) (vs.set i v)
  | [], vs, i, h' => by cases h'; exact rfl
  | d' :: ds, vs, 0, h' => by
    obtain ⟨w, r, e, h1, h2⟩ := h'
    subst e
    exact ⟨v, r, rfl, h, h2⟩
  | d' :: ds, vs, i + 1, h' => by
    obtain ⟨w, r, e, h1, h2⟩ := h'
    subst e
    exact ⟨w, r.set i v, rfl, h1, RVs.set h i h2⟩
theorem RVs.take {K : PySem.W.Frag} {m : Nat → Addr} {n : Nat} {H : Hp} : ∀ {ds : List D} {vs : List V} (i : Nat), RVs K m n H ds vs → RVs K m n H (ds.take i) (vs.take i)
  | ds, vs, 0, h => by simp only [List.take_zero]; exact rfl
  | [], vs, i + 1, h' => by cases h'; exact rfl
  | d' :: ds, vs, i + 1, h' => by
    obtain ⟨w, r, e, h1, h2⟩ := h'
    subst e
    exact ⟨w, r.take i, rfl, h1, RVs.take i h2⟩
theorem RVs.drop {K : PySem.W.Frag} {m : Nat → Addr} {n : Nat} {H : Hp} : ∀ {ds : List D} {vs : List V} (i : Nat), RVs K m n H ds vs → RVs K m n H (ds.drop i) (vs.drop i)
  | ds, vs, 0, h => h
  | [], vs, i + 1, h' => by cases h'; exact rfl
  | d' :: ds, vs, i + 1, h' => by
    obtain ⟨w, r, e, h1, h2⟩ := h'
    subst e
    exact RVs.drop i h2

/-! ### outcomes -/
inductive Out (α : Type) where
  | ok (a : α) (st : S) | exc (e : Ex) (st : S) | bad
def Out.bind {α β : Type} (o : Out α) (k : α → S → Out β) : Out β := match o with
  | .ok a st => k a st
  | .exc e st => .exc e st
  | .bad => .bad
@[simp] theorem Out.bind_ok {α β : Type} (a : α) (st : S) (k : α → S → Out β) : (Out.ok a st).bind k = k a st := rfl
@[simp] theorem Out.bind_exc {α β : Type} (e : Ex) (st : S) (k : α → S → Out β) : (Out.exc e st).bind k = .exc e st := rfl
@[simp] theorem Out.bind_bad {α β : Type} (k : α → S → Out β) : (Out.bad).bind k = .bad := rfl

/-- what an exception is -/
def RX (K : PySem.W.Frag) (mg : Str → Option Value) (m : Nat → Addr) (n : Nat) (H : Hp) (e : Ex) (cls : Value) (od : Option Addr) : Prop :=
  ∃ (C dx : Addr), mg e.cls = some (.ref C) ∧ cls = .ref C ∧ od = some dx ∧ RV K m n H (.loc e.at_) (.ref dx)
/-- behind (m, n, H): the outcome o meets what is wanted -/
def Meet {α : Type} (K : PySem.W.Frag) (mg : Str → Option Value) (m : Nat → Addr) (n : Nat) (H : Hp) (o : Out α) (Q : α → S → (Nat → Addr) → Hp → Prop) (E : XK) : Prop := match o with
  | .ok a st' => ∀ m' H', RS K m' st' H' → Mn K m n H m' st'.length H' → Q a st' m' H'
  | .exc e st' => ∀ m' H' cls od, RS K m' st' H' → Mn K m n H m' st'.length H' → RX K mg m' st'.length H' e cls od → E cls od H'
  | .bad => False
section
variable {α β : Type} {K : PySem.W.Frag} {mg : Str → Option Value} {m : Nat → Addr} {n : Nat} {H : Hp} {o : Out α} {E : XK}
theorem Meet.imp {Q Q' : α → S → (Nat → Addr) → Hp → Prop} (h : Meet K mg m n H o Q E) (hq : ∀ a st' m' H', RS K m' st' H' → Mn K m n H m' st'.length H' → Q a st' m' H' → Q' a st' m' H') : Meet K mg m n H o Q' E := by
  cases o with
  | ok a st' => exact fun m' H' r mn => hq _ _ _ _ r mn (h m' H' r mn)
  | exc e st' => exact h
  | bad => exact h
theorem Meet.bind {k : α → S → Out β} {Q : β → S → (Nat → Addr) → Hp → Prop} (h : Meet K mg m n H (o.bind k) Q E) :
    Meet K mg m n H o (fun a st' m' H' => Meet K mg m' st'.length H' (k a st') Q E) E := by
  cases o with
  | ok a st' =>
    intro m' H' r mn
    show Meet K mg m' st'.length H' (k a st') Q E
    have h1 : Meet K mg m n H (k a st') Q E := h
    cases hk : k a st' with
    | ok b st2 => rw [hk] at h1; exact fun m2 H2 r2 mn2 => h1 m2 H2 r2 (mn.trans mn2)
    | exc e st2 => rw [hk] at h1; exact fun m2 H2 cls od r2 mn2 rx => h1 m2 H2 cls od r2 (mn.trans mn2) rx
    | bad => rw [hk] at h1; exact h1
  | exc e st' => exact h
  | bad => exact h
end

/-! ### readings of denotations -/
/-- what is wanted of exceptions, and what stands for values beside the slots -/
structure Wc where
  W : WX
  gh : List (D × V) := []
abbrev FE := En → S → Out D
abbrev FT := En → S → Out Bool
abbrev FA := En → S → Out (List D)
section
variable (K : PySem.W.Frag) (mg : Str → Option Value) (W : Wc)
def rE (f : FE) : TE := fun σ H Q => ∃ m st ρ, RS K m st H ∧ RE W.gh K m st.length H ρ σ ∧
  Meet K mg m st.length H (f ρ st) (fun d st' m' H' => ∀ v, RV K m' st'.length H' d v → Q v H') (fun cls od H' => W.W cls od σ H')
def rT (f : FT) : TT := fun σ H Q => ∃ m st ρ, RS K m st H ∧ RE W.gh K m st.length H ρ σ ∧
  Meet K mg m st.length H (f ρ st) (fun b st' m' H' => Q b H') (fun cls od H' => W.W cls od σ H')
def rA (f : FA) : TA := fun σ H Q => ∃ m st ρ, RS K m st H ∧ RE W.gh K m st.length H ρ σ ∧
  Meet K mg m st.length H (f ρ st) (fun ds st' m' H' => ∀ vs, RVs K m' st'.length H' ds vs → Q vs H') (fun cls od H' => W.W cls od σ H')
end
inductive SO where
  | nx (ρ : En) (st : S) | rt (d : D) (st : S) | bk (ρ : En) (st : S) | ct (ρ : En) (st : S) | ex (e : Ex) (ρ : En) (st : S) | bad
abbrev FS := En → S → SO
/-- the statement's outcome meets its ends -/
def MeetS (K : PySem.W.Frag) (mg : Str → Option Value) (W : Wc) (m : Nat → Addr) (n : Nat) (H : Hp) (o : SO) (E : Ends) : Prop := match o with
  | .nx ρ st => ∀ m' H' σ, RS K m' st H' → Mn K m n H m' st.length H' → RE W.gh K m' st.length H' ρ σ → E.nx σ H'
  | .rt d st => ∀ m' H' v, RS K m' st H' → Mn K m n H m' st.length H' → RV K m' st.length H' d v → E.rt v H'
  | .bk ρ st => ∀ m' H' σ, RS K m' st H' → Mn K m n H m' st.length H' → RE W.gh K m' st.length H' ρ σ → E.bk σ H'
  | .ct ρ st => ∀ m' H' σ, RS K m' st H' → Mn K m n H m' st.length H' → RE W.gh K m' st.length H' ρ σ → E.ct σ H'
  | .ex e ρ st => ∀ m' H' σ cls od, RS K m' st H' → Mn K m n H m' st.length H' → RE W.gh K m' st.length H' ρ σ → RX K mg m' st.length H' e cls od → W.W cls od σ H'
  | .bad => False
def rS (K : PySem.W.Frag) (mg : Str → Option Value) (W : Wc) (f : FS) : TS := fun E σ H => ∃ m st ρ, RS K m st H ∧ RE W.gh K m st.length H ρ σ ∧ MeetS K mg W m st.length H (f ρ st) E
end MP

set_option Elab.async false
set_option linter.all false
set_option maxRecDepth 100000
set_option maxHeartbeats 4000000
namespace MP
open PySem L2

/-! ### equality of data is decidable -/
mutual
def D.same : D → D → Bool
  | .non, .non => true
  | .bl a, .bl b => a == b
  | .int i, .int j => decide (i = j)
  | .str x, .str y => decide (x = y)
  | .tup xs, .tup ys => D.sames xs ys
  | .loc i, .loc j => decide (i = j)
  | _, _ => false
def D.sames : List D → List D → Bool
  | [], [] => true
  | x :: xs, y :: ys => D.same x y && D.sames xs ys
  | _, _ => false
end
mutual
theorem D.same_eq : ∀ (a b : D), D.same a b = true → a = b
  | .non, b, h => by cases b <;> first | rfl | simp [D.same] at h
  | .bl a, b, h => by cases b <;> first | simp [D.same] at h | skip
                      all_goals (subst h; rfl)
  | .int i, b, h => by cases b <;> first | simp [D.same] at h | skip
                       all_goals (subst h; rfl)
  | .str x, b, h => by cases b <;> first | simp [D.same] at h | skip
                       all_goals (subst h; rfl)
  | .tup xs, b, h => by
    cases b with
    | tup ys =>
      have e := D.sames_eq xs ys (by simpa [D.same] using h)
      rw [e]
    | _ => simp [D.same] at h
  | .loc i, b, h => by cases b <;> first | simp [D.same] at h | skip
                       all_goals (subst h; rfl)
theorem D.sames_eq : ∀ (a b : List D), D.sames a b = true → a = b
  | [], b, h => by cases b <;> first | rfl | simp [D.sames] at h
  | x :: xs, b, h => by
    cases b with
    | nil => simp [D.sames] at h
    | cons y ys =>
      have h2 : (D.same x y && D.sames xs ys) = true := by simpa [D.sames] using h
      obtain ⟨h3, h4⟩ := Bool.and_eq_true_iff.mp h2
      rw [D.same_eq x y h3, D.sames_eq xs ys h4]
end
mutual
theorem D.same_self : ∀ a : D, D.same a a = true
  | .non => by simp [D.same]
  | .bl _ => by simp [D.same]
  | .int _ => by simp [D.same]
  | .str _ => by simp [D.same]
  | .tup xs => by simp [D.same, D.sames_self xs]
  | .loc _ => by simp [D.same]
theorem D.sames_self : ∀ a : List D, D.sames a a = true
  | [] => by simp [D.sames]
  | x :: xs => by simp [D.sames, D.same_self x, D.sames_self xs]
end
instance : DecidableEq D := fun a b => if h : D.same a b = true then .isTrue (D.same_eq a b h) else .isFalse fun e => h (by rw [e]; exact D.same_self b)
instance : DecidableEq Ob := fun a b => match a, b with
  | .lst xs, .lst ys => if h : xs = ys then .isTrue (by rw [h]) else .isFalse fun e => h (by injection e)
  | .fz xs, .fz ys => if h : xs = ys then .isTrue (by rw [h]) else .isFalse fun e => h (by injection e)
  | .xd xs, .xd ys => if h : xs = ys then .isTrue (by rw [h]) else .isFalse fun e => h (by injection e)
  | .lst _, .fz _ => .isFalse fun e => by cases e
  | .fz _, .lst _ => .isFalse fun e => by cases e
  | .lst _, .xd _ => .isFalse fun e => by cases e
  | .fz _, .xd _ => .isFalse fun e => by cases e
  | .xd _, .lst _ => .isFalse fun e => by cases e
  | .xd _, .fz _ => .isFalse fun e => by cases e
  | .nu, .nu => .isTrue rfl
  | .nu, .lst _ => .isFalse fun e => by cases e
  | .nu, .fz _ => .isFalse fun e => by cases e
  | .nu, .xd _ => .isFalse fun e => by cases e
  | .lst _, .nu => .isFalse fun e => by cases e
  | .fz _, .nu => .isFalse fun e => by cases e
  | .xd _, .nu => .isFalse fun e => by cases e
/-- the list at a place -/
def lstAt (st : S) (n : Nat) : Option (List D) := match st[n]? with
  | some (.lst ds) => some ds
  | some (.fz ds) => some ds
  | _ => none
theorem lstAt_ok {K : PySem.W.Frag} {m : Nat → Addr} {st : S} {H : Hp} (rs : RS K m st H) {n : Nat} {ds : List D} (h : lstAt st n = some ds) : ∃ vs, SqL K H (m n) vs ∧ RVs K m st.length H ds vs ∧ ((∃ xs, H (m n) = some (.lst xs)) ∨ ∃ xs, FzL K H (m n) xs) := by
  unfold lstAt at h
  cases q : st[n]? with
  | none => rw [q] at h; cases h
  | some ob =>
    rw [q] at h
    have ro := rs.at_ n ob q
    cases ob with
    | lst xs =>
      cases h
      obtain ⟨vs, h1, h2⟩ := ro
      exact ⟨vs, SqL.of h1, h2, .inl ⟨vs, h1⟩⟩
    | fz xs =>
      cases h
      obtain ⟨vs, h1, h2⟩ := ro
      exact ⟨vs, h1.seq, h2, .inr ⟨vs, h1⟩⟩
    | xd fs => cases h
    | nu => cases h

/-! ### weakening readings -/
section
variable {X : Cx} {e : Expr} {es : List Expr} {st : Stmt} {sts : List Stmt}
theorem pe_imp {t t' : TE} (h : PE X e t) (hi : ∀ σ H Q, t' σ H Q → t σ H Q) : PE X e t' := ⟨fun pins s σ H Q I hw => h.run pins s σ H Q I (hi σ H Q hw)⟩
theorem pt_imp {t t' : TT} (h : PT X e t) (hi : ∀ σ H Q, t' σ H Q → t σ H Q) : PT X e t' := ⟨fun pins s σ H Q I hw => h.run pins s σ H Q I (hi σ H Q hw)⟩
theorem pw_imp {t t' : TT} (h : PW X e t) (hi : ∀ σ H Q, t' σ H Q → t σ H Q) : PW X e t' := ⟨fun wh pins s σ H Q I hw => h.run wh pins s σ H Q I (hi σ H Q hw)⟩
theorem pa_imp {t t' : TA} (h : PA X es t) (hi : ∀ σ H Q, t' σ H Q → t σ H Q) : PA X es t' := ⟨fun pos pins s σ H Q I hw => h.run pos pins s σ H Q I (hi σ H Q hw)⟩
theorem ps_imp {t t' : TS} (h : PS X st t) (hi : ∀ E σ H, t' E σ H → t E σ H) : PS X st t' := ⟨fun pins s σ H E I hw => h.run pins s σ H E I (hi E σ H hw)⟩
theorem pss_imp {t t' : TS} (h : PSs X sts t) (hi : ∀ E σ H, t' E σ H → t E σ H) : PSs X sts t' := ⟨fun pins s σ H E I hw => h.run pins s σ H E I (hi E σ H hw)⟩
end
abbrev JE (X : Cx) (W : Wc) (e : Expr) (f : FE) : Prop := PE X e (rE X.K X.mg W f)
abbrev JT (X : Cx) (W : Wc) (e : Expr) (f : FT) : Prop := PT X e (rT X.K X.mg W f)
abbrev JW (X : Cx) (W : Wc) (e : Expr) (f : FT) : Prop := PW X e (rT X.K X.mg W f)
abbrev JA (X : Cx) (W : Wc) (es : List Expr) (f : FA) : Prop := PA X es (rA X.K X.mg W f)
abbrev JS (X : Cx) (W : Wc) (st : Stmt) (f : FS) : Prop := PS X st (rS X.K X.mg W f)
abbrev JB (X : Cx) (W : Wc) (sts : List Stmt) (f : FS) : Prop := PSs X sts (rS X.K X.mg W f)

/-! ### denotations of expressions -/
def fVar (i : Nat) : FE := fun ρ st => match ρ[i]? with
  | some (some d) => .ok d st
  | _ => .bad
def fC (d : D) : FE := fun _ st => .ok d st
def ofO {α : Type} (o : Option (α × S)) : Out α := match o with
  | some (a, st) => .ok a st
  | none => .bad
@[simp] theorem ofO_some {α : Type} (a : α) (st : S) : ofO (some (a, st)) = .ok a st := rfl
@[simp] theorem ofO_none {α : Type} : ofO (none : Option (α × S)) = .bad := rfl
def fBin (g : D → D → S → Option (D × S)) (a b : FE) : FE := fun ρ st => (a ρ st).bind fun x st1 => (b ρ st1).bind fun y st2 => ofO (g x y st2)
def fUn (g : D → S → Option (D × S)) (a : FE) : FE := fun ρ st => (a ρ st).bind fun x st1 => ofO (g x st1)
def fNil : FA := fun _ st => .ok [] st
def fCons (a : FE) (r : FA) : FA := fun ρ st => (a ρ st).bind fun x st1 => (r ρ st1).bind fun xs st2 => .ok (x :: xs) st2
def fTup (a : FA) : FE := fun ρ st => (a ρ st).bind fun ds st1 => .ok (.tup ds) st1
def fLst (a : FA) : FE := fun ρ st => (a ρ st).bind fun ds st1 => .ok (.loc st1.length) (st1 ++ [.lst ds])
def fArgs (g : List D → S → Option (D × S)) (a : FA) : FE := fun ρ st => (a ρ st).bind fun ds st1 => ofO (g ds st1)
def fMeth (g : D → List D → S → Option (D × S)) (o : FE) (a : FA) : FE := fun ρ st => (o ρ st).bind fun x st1 => (a ρ st1).bind fun ds st2 => ofO (g x ds st2)
def fCall (g : List D → S → Out D) (a : FA) : FE := fun ρ st => (a ρ st).bind fun ds st1 => g ds st1
def fIsB (a : FE) : FT := fun ρ st => (a ρ st).bind fun x st1 => match x with
  | .bl b => .ok b st1
  | _ => .bad
/-- the truth of a value -/
def truD (st : S) : D → Option Bool
  | .non => some false
  | .bl b => some b
  | .int i => some (i != 0)
  | .str x => if x.length ≤ sizeLine then some (x.length != 0) else none
  | .tup ds => some (!ds.isEmpty)
  | .loc n => (lstAt st n).map fun ds => !ds.isEmpty
def fTru (a : FE) : FT := fun ρ st => (a ρ st).bind fun x st1 => match truD st1 x with
  | some b => .ok b st1
  | none => .bad
def fAnd (a b : FT) : FT := fun ρ st => (a ρ st).bind fun x st1 => if x = true then b ρ st1 else .ok false st1
def fOr (a b : FT) : FT := fun ρ st => (a ρ st).bind fun x st1 => if x = true then .ok true st1 else b ρ st1
def fNot (a : FT) : FT := fun ρ st => (a ρ st).bind fun x st1 => .ok (!x) st1
def fAndV (a b : FE) : FE := fun ρ st => (fIsB a ρ st).bind fun x st1 => if x = true then b ρ st1 else .ok (.bl false) st1
def fOrV (a b : FE) : FE := fun ρ st => (fIsB a ρ st).bind fun x st1 => if x = true then .ok (.bl true) st1 else b ρ st1
def fNotV (a : FE) : FE := fun ρ st => (fIsB a ρ st).bind fun x st1 => .ok (.bl (!x)) st1
def fIf (t : FT) (a b : FE) : FE := fun ρ st => (t ρ st).bind fun x st1 => if x = true then a ρ st1 else b ρ st1

/-- the length of an argument list -/
def FLen (f : FA) (n : Nat) : Prop := ∀ ρ st ds st', f ρ st = .ok ds st' → ds.length = n
theorem flen_nil : FLen fNil 0 := fun _ _ _ _ h => by cases h; rfl
theorem flen_cons {a : FE} {r : FA} {n : Nat} (h : FLen r n) : FLen (fCons a r) (n + 1) := fun ρ st ds st' e => by
  unfold fCons at e
  cases ha : a ρ st with
  | ok x st1 =>
    rw [ha] at e
    simp only [Out.bind_ok] at e
    cases hr : r ρ st1 with
    | ok xs st2 =>
      rw [hr] at e
      simp only [Out.bind_ok] at e
      cases e
      simp [h _ _ _ _ hr]
    | exc _ _ => rw [hr] at e; cases e
    | bad => rw [hr] at e; cases e
  | exc _ _ => rw [ha] at e; cases e
  | bad => rw [ha] at e; cases e

/-! ### glue -/
section
variable {K : PySem.W.Frag} {mg : Str → Option Value} {W : Wc} {α : Type}
/-- two steps in a row -/
theorem re_bind {f : FE} {k : D → S → En → Out α} {m : Nat → Addr} {st : S} {ρ : En} {σ : L2.St} {H : Hp} {Qa : α → S → (Nat → Addr) → Hp → Prop} {R : V → Hp → Prop}
    (rs : RS K m st H) (re : RE W.gh K m st.length H ρ σ) (h : Meet K mg m st.length H ((f ρ st).bind fun d st1 => k d st1 ρ) Qa (fun cls od H' => W.W cls od σ H'))
    (hr : ∀ d st1 m1 H1 v, RS K m1 st1 H1 → RE W.gh K m1 st1.length H1 ρ σ → Mn K m st.length H m1 st1.length H1 → RV K m1 st1.length H1 d v → Meet K mg m1 st1.length H1 (k d st1 ρ) Qa (fun cls od H' => W.W cls od σ H') → R v H1) :
    rE K mg W f σ H R :=
  ⟨m, st, ρ, rs, re, (Meet.bind h).imp fun d st1 m1 H1 r1 mn h1 v rv => hr d st1 m1 H1 v r1 (re.mono mn) mn rv h1⟩
theorem ra_bind {f : FA} {k : List D → S → En → Out α} {m : Nat → Addr} {st : S} {ρ : En} {σ : L2.St} {H : Hp} {Qa : α → S → (Nat → Addr) → Hp → Prop} {R : List V → Hp → Prop}
    (rs : RS K m st H) (re : RE W.gh K m st.length H ρ σ) (h : Meet K mg m st.length H ((f ρ st).bind fun d st1 => k d st1 ρ) Qa (fun cls od H' => W.W cls od σ H'))
    (hr : ∀ d st1 m1 H1 v, RS K m1 st1 H1 → RE W.gh K m1 st1.length H1 ρ σ → Mn K m st.length H m1 st1.length H1 → RVs K m1 st1.length H1 d v → Meet K mg m1 st1.length H1 (k d st1 ρ) Qa (fun cls od H' => W.W cls od σ H') → R v H1) :
    rA K mg W f σ H R :=
  ⟨m, st, ρ, rs, re, (Meet.bind h).imp fun d st1 m1 H1 r1 mn h1 v rv => hr d st1 m1 H1 v r1 (re.mono mn) mn rv h1⟩
theorem rt_bind {f : FT} {k : Bool → S → En → Out α} {m : Nat → Addr} {st : S} {ρ : En} {σ : L2.St} {H : Hp} {Qa : α → S → (Nat → Addr) → Hp → Prop} {R : Bool → Hp → Prop}
    (rs : RS K m st H) (re : RE W.gh K m st.length H ρ σ) (h : Meet K mg m st.length H ((f ρ st).bind fun d st1 => k d st1 ρ) Qa (fun cls od H' => W.W cls od σ H'))
    (hr : ∀ d st1 m1 H1, RS K m1 st1 H1 → RE W.gh K m1 st1.length H1 ρ σ → Mn K m st.length H m1 st1.length H1 → Meet K mg m1 st1.length H1 (k d st1 ρ) Qa (fun cls od H' => W.W cls od σ H') → R d H1) :
    rT K mg W f σ H R :=
  ⟨m, st, ρ, rs, re, (Meet.bind h).imp fun d st1 m1 H1 r1 mn h1 => hr d st1 m1 H1 r1 (re.mono mn) mn h1⟩
/-- what an operation by data asks of its reading -/
def Fin (K : PySem.W.Frag) (m : Nat → Addr) (st : S) (H : Hp) (d : D) (st' : S) (Q : VK) : Prop :=
  ∀ v m' H', RS K m' st' H' → Mn K m st.length H m' st'.length H' → RV K m' st'.length H' d v → Q v H'
theorem meet_fin {m : Nat → Addr} {st : S} {H : Hp} {o : Option (D × S)} {Q : VK} {E : XK} (h : Meet K mg m st.length H (ofO o) (fun d st' m' H' => ∀ v, RV K m' st'.length H' d v → Q v H') E) :
    ∃ d st', o = some (d, st') ∧ Fin K m st H d st' Q := by
  cases o with
  | none => exact h.elim
  | some p =>
    obtain ⟨d, st'⟩ := p
    exact ⟨d, st', rfl, fun v m' H' r mn rv => h m' H' r mn v rv⟩
theorem Fin.here {m : Nat → Addr} {st : S} {H : Hp} {d : D} {v : V} {Q : VK} (h : Fin K m st H d st Q) (r : RS K m st H) (rv : RV K m st.length H d v) : Q v H := h v m H r Mn.refl rv
theorem Fin.tup {m : Nat → Addr} {st : S} {H : Hp} {ds : List D} {vs : List V} {Q : VK} (h : Fin K m st H (.tup ds) st Q) (r : RS K m st H) (rv : RVs K m st.length H ds vs) {p : Addr} (hp : H p = none) : Q (.ref p) (upd H p (.tup vs)) := by
  obtain ⟨r2, mn⟩ := r.laid (o := .tup vs) hp
  exact h _ _ _ r2 mn ⟨p, vs, rfl, SqT.of upd_same, mn.all rv⟩
theorem Fin.lst {m : Nat → Addr} {st : S} {H : Hp} {ds : List D} {vs : List V} {Q : VK} (h : Fin K m st H (.loc st.length) (st ++ [.lst ds]) Q) (r : RS K m st H) (rv : RVs K m st.length H ds vs) {p : Addr} (hp : H p = none) : Q (.ref p) (upd H p (.lst vs)) := by
  obtain ⟨m', e, r2, mn⟩ := r.push hp rv
  exact h _ _ _ r2 mn ⟨by simp, by rw [e]⟩
theorem Fin.wr {m : Nat → Addr} {st : S} {H : Hp} {k : Nat} {d : D} {v : V} {ds0 ds : List D} {vs : List V} {Q : VK} (h : Fin K m st H d (st.set k (.lst ds)) Q) (r : RS K m st H) (e0 : st[k]? = some (.lst ds0)) (rv : RVs K m st.length H ds vs) (rd : RV K m st.length H d v) : Q v (upd H (m k) (.lst vs)) := by
  obtain ⟨r2, mn⟩ := r.write e0 rv
  exact h _ _ _ r2 mn (mn _ _ rd)
end
/-- readings of operations by data -/
def rD (K : PySem.W.Frag) (g : D → D → S → Option (D × S)) : R2 := fun x y H Q => ∃ m st dx dy d st', RS K m st H ∧ RV K m st.length H dx x ∧ RV K m st.length H dy y ∧ g dx dy st = some (d, st') ∧ Fin K m st H d st' Q
def rD1 (K : PySem.W.Frag) (g : D → S → Option (D × S)) : V → Hp → VK → Prop := fun x H Q => ∃ m st dx d st', RS K m st H ∧ RV K m st.length H dx x ∧ g dx st = some (d, st') ∧ Fin K m st H d st' Q
def rDL (K : PySem.W.Frag) (g : List D → S → Option (D × S)) : List V → Hp → VK → Prop := fun xs H Q => ∃ m st ds d st', RS K m st H ∧ RVs K m st.length H ds xs ∧ g ds st = some (d, st') ∧ Fin K m st H d st' Q
def rDM (K : PySem.W.Frag) (g : D → List D → S → Option (D × S)) : V → List V → Hp → VK → Prop := fun x xs H Q => ∃ m st dx ds d st', RS K m st H ∧ RV K m st.length H dx x ∧ RVs K m st.length H ds xs ∧ g dx ds st = some (d, st') ∧ Fin K m st H d st' Q

/-! ### the rules of expressions -/
section
variable {X : Cx} {W : Wc} {a b c e : Expr} {es rest : List Expr} {fa fb fc : FE} {fs : FA} {pos p : Pos}
theorem je_var (i : Nat) {x : Str} (hN : X.N[i]? = some x := by rfl) (hv : Vis X.env.scope x := by first | exact Or.inl rfl | exact Or.inr (Or.inl rfl) | exact Or.inr (Or.inr rfl)) (hd : (x == ("__debug__" : Str)) = false := by decide)
    (hcd : (x == ("__classdict__" : Str)) = false := by decide) : JE X W (.Name x pos) (fVar i) := by
  refine pe_imp (pe_var hN hv hd hcd) fun σ H Q h => ?_
  obtain ⟨m, st, ρ, rs, re, h⟩ := h
  unfold fVar at h
  cases e : ρ[i]? with
  | none => rw [e] at h; exact h.elim
  | some o =>
    rw [e] at h
    cases o with
    | none => exact h.elim
    | some d =>
      obtain ⟨v, h1, h2⟩ := re.get i d e
      exact ⟨v, h1, h m H rs Mn.refl v h2⟩
theorem je_c {d : D} {v : V} (h : PE X e (tC v)) (hd : ∀ (m : Nat → Addr) n H, RV X.K m n H d v) : JE X W e (fC d) :=
  pe_imp h fun σ H Q ⟨m, st, ρ, rs, re, h⟩ => h m H rs Mn.refl v (hd _ _ _)
theorem je_int {i : Int} {j : Nat} : JE X W (.Constant (.int i) j pos) (fC (.int i)) := je_c pe_int fun _ _ _ => rfl
theorem je_bl {b : Bool} {j : Nat} : JE X W (.Constant (.bool b) j pos) (fC (.bl b)) := je_c pe_bl fun _ _ _ => rfl
theorem je_non {j : Nat} : JE X W (.Constant .none j pos) (fC .non) := je_c pe_non fun _ _ _ => rfl
theorem je_str {x : Str} {j : Nat} : JE X W (.Constant (.str x) j pos) (fC (.str x)) := je_c pe_str fun _ _ _ => rfl
/-- a module's constant: an int, a text, a truth -/
theorem je_glob {x : Str} {d : D} {v : V} {u : Value} (hg : Gl X x) (hm : X.mg x = some u) (r : RelV v u) (hd : ∀ (m : Nat → Addr) n H, RV X.K m n H d v) (hdb : (x == ("__debug__" : Str)) = false := by decide) : JE X W (.Name x pos) (fC d) :=
  je_c (pe_glob hg hm r hdb) hd

theorem bin_imp {r : R2} {g : D → D → S → Option (D × S)} {σ : L2.St} {H : Hp} {Q : VK} (hr : ∀ x y H Q, rD X.K g x y H Q → r x y H Q) (h : rE X.K X.mg W (fBin g fa fb) σ H Q) :
    tOp r (rE X.K X.mg W fa) (rE X.K X.mg W fb) σ H Q := by
  obtain ⟨m, st, ρ, rs, re, h⟩ := h
  refine re_bind (k := fun x st1 ρ => (fb ρ st1).bind fun y st2 => ofO (g x y st2)) rs re h fun x st1 m1 H1 v1 r1 re1 mn1 rv1 h1 => ?_
  refine re_bind (k := fun y st2 ρ => ofO (g x y st2)) r1 re1 h1 fun y st2 m2 H2 v2 r2 re2 mn2 rv2 h2 => ?_
  obtain ⟨d, st', e, fin⟩ := meet_fin h2
  exact hr _ _ _ _ ⟨m2, st2, x, y, d, st', r2, mn2 _ _ rv1, rv2, e, fin⟩
theorem je_op {op : Operator} {g : D → D → S → Option (D × S)} (ho : OpR X (binaryOp op) (rD X.K g)) (ha : JE X W a fa) (hb : JE X W b fb) : JE X W (.BinOp a op b pos) (fBin g fa fb) :=
  pe_imp (pe_op ho ha hb) fun σ H Q h => bin_imp (fun _ _ _ _ q => q) h
theorem je_cmp {op : CmpOp} {g : D → D → S → Option (D × S)} (ho : OpR X (compareOp op) (rD X.K g)) (ha : JE X W a fa) (hb : JE X W b fb) (hm : behindInMarks op b = false) : JE X W (.Compare a [op] [b] pos) (fBin g fa fb) :=
  pe_imp (pe_cmpR ho ha hb hm) fun σ H Q h => bin_imp (fun _ _ _ _ q => q) h
theorem je_un {op : UnaryOp} {g : D → S → Option (D × S)} (ho : UnR X (unaryOp op) (rD1 X.K g)) (ha : JE X W a fa) : JE X W (.UnaryOp op a pos) (fUn g fa) := by
  refine pe_imp (pe_un ho ha) fun σ H Q h => ?_
  obtain ⟨m, st, ρ, rs, re, h⟩ := h
  refine re_bind (k := fun x st1 ρ => ofO (g x st1)) rs re h fun x st1 m1 H1 v1 r1 re1 mn1 rv1 h1 => ?_
  obtain ⟨d, st', e, fin⟩ := meet_fin h1
  exact ⟨m1, st1, x, d, st', r1, rv1, e, fin⟩
theorem je_ix {g : D → D → S → Option (D × S)} (ho : IxR X (rD X.K g)) (ha : JE X W a fa) (hb : JE X W b fb) (hs : PlainIx b := by exact fun _ _ => rfl) : JE X W (.Subscript a b pos) (fBin g fa fb) :=
  pe_imp (pe_ix ho ha hb hs) fun σ H Q h => bin_imp (fun _ _ _ _ q => q) h
/-- a chain of two comparisons, both answers truths -/
def fChain (g g' : D → D → S → Option (D × S)) (a b c : FE) : FE := fun ρ st => (a ρ st).bind fun x st1 => (b ρ st1).bind fun y st2 => (ofO (g x y st2)).bind fun z st3 => match z with
  | .bl true => (c ρ st3).bind fun w st4 => ofO (g' y w st4)
  | .bl false => .ok (.bl false) st3
  | _ => .bad

theorem ja_nil : JA X W [] fNil := pa_imp pa_nil fun σ H Q ⟨m, st, ρ, rs, re, h⟩ => h m H rs Mn.refl [] rfl
theorem ja_cons (ha : JE X W e fa) (hr : JA X W es fs) (hs : starEach (e :: es) X.env = (false, eval e X.env) :: starEach es X.env := by rfl) : JA X W (e :: es) (fCons fa fs) := by
  refine pa_imp (pa_cons ha hr hs) fun σ H Q h => ?_
  obtain ⟨m, st, ρ, rs, re, h⟩ := h
  refine re_bind (k := fun x st1 ρ => (fs ρ st1).bind fun xs st2 => .ok (x :: xs) st2) rs re h fun x st1 m1 H1 v1 r1 re1 mn1 rv1 h1 => ?_
  refine ra_bind (k := fun xs st2 ρ => .ok (x :: xs) st2) r1 re1 h1 fun xs st2 m2 H2 v2 r2 re2 mn2 rv2 h2 => ?_
  exact h2 m2 H2 r2 Mn.refl _ ⟨_, _, rfl, mn2 _ _ rv1, rv2⟩
theorem je_tup {k n : Nat} (ha : JA X W es fs) (hl : FLen fs n) (hn : n ≤ 1000 := by decide) : JE X W (.Tuple es k pos) (fTup fs) := by
  refine pe_imp (pe_tup ha) fun σ H Q h => ?_
  obtain ⟨m, st, ρ, rs, re, h⟩ := h
  have hlen : ∀ ds st', fs ρ st = .ok ds st' → ds.length = n := fun ds st' e => hl _ _ _ _ e
  refine ⟨m, st, ρ, rs, re, ?_⟩
  have h' := Meet.bind (o := fs ρ st) (k := fun ds st1 => Out.ok (D.tup ds) st1) h
  cases e : fs ρ st with
  | bad => rw [e] at h'; exact h'
  | exc x st' => rw [e] at h'; exact h'
  | ok ds st' =>
    rw [e] at h'
    intro m1 H1 r1 mn1 vs rv
    have z : vs.length = n := by rw [← RVs.len rv]; exact hlen ds st' e
    refine ⟨by rw [z]; exact Nat.le_of_lt (small1000 hn), fun q hq => ?_⟩
    have h2 := h' m1 H1 r1 mn1
    obtain ⟨r2, mn⟩ := r1.laid (o := .tup vs) hq
    exact h2 _ _ r2 mn _ ⟨q, vs, rfl, SqT.of upd_same, mn.all rv⟩
theorem je_lst {n : Nat} (ha : JA X W es fs) (hl : FLen fs n) (hn : n ≤ 1000 := by decide) : JE X W (.List es pos) (fLst fs) := by
  refine pe_imp (pe_lst ha) fun σ H Q h => ?_
  obtain ⟨m, st, ρ, rs, re, h⟩ := h
  have hlen : ∀ ds st', fs ρ st = .ok ds st' → ds.length = n := fun ds st' e => hl _ _ _ _ e
  refine ⟨m, st, ρ, rs, re, ?_⟩
  have h' := Meet.bind (o := fs ρ st) (k := fun ds st1 => Out.ok (D.loc st1.length) (st1 ++ [.lst ds])) h
  cases e : fs ρ st with
  | bad => rw [e] at h'; exact h'
  | exc x st' => rw [e] at h'; exact h'
  | ok ds st' =>
    rw [e] at h'
    intro m1 H1 r1 mn1 vs rv
    have z : vs.length = n := by rw [← RVs.len rv]; exact hlen ds st' e
    refine ⟨by rw [z]; exact Nat.le_of_lt (small1000 hn), fun q hq => ?_⟩
    have h2 := h' m1 H1 r1 mn1
    obtain ⟨m', em, r2, mn⟩ := r1.push hq rv
    exact h2 _ _ r2 mn _ ⟨by simp, by rw [em]⟩
theorem args_imp {g : List D → S → Option (D × S)} {σ : L2.St} {H : Hp} {Q : VK} (h : rE X.K X.mg W (fArgs g fs) σ H Q) : tCB (rDL X.K g) (rA X.K X.mg W fs) σ H Q := by
  obtain ⟨m, st, ρ, rs, re, h⟩ := h
  refine ra_bind (k := fun xs st1 ρ => ofO (g xs st1)) rs re h fun xs st1 m1 H1 v1 r1 re1 mn1 rv1 h1 => ?_
  obtain ⟨d, st', e, fin⟩ := meet_fin h1
  exact ⟨m1, st1, xs, d, st', r1, rv1, e, fin⟩
/-- f(..), f a built-in function by its name -/
theorem je_callB {x : Str} {id : String} {g : List D → S → Option (D × S)} (hc : CallR X (.builtin id) (rDL X.K g)) (hg : Gl X x) (hm : X.mg x = none) (hv : bootBuiltins x = some (.builtin id)) (ha : JA X W (e :: es) fs) (hn : x ≠ "__name__" := by decide) (hdb : (x == ("__debug__" : Str)) = false := by decide)
    (he : starEach (e :: es) X.env = (false, eval e X.env) :: starEach es X.env := by rfl) (hpl : (backTo pos (starEach es X.env)).any (·.1) = false := by rfl) : JE X W (.Call (.Name x p) (e :: es) [] pos) (fArgs g fs) :=
  pe_imp (pe_callB hc hg hm hv ha hn hdb he hpl) fun σ H Q h => args_imp h
theorem je_callTy {x : Str} {T : String} {g : List D → S → Option (D × S)} (hc : CallR X (.type T) (rDL X.K g)) (hg : Gl X x) (hm : X.mg x = none) (hv : bootBuiltins x = some (.type T)) (ha : JA X W (e :: es) fs) (hn : x ≠ "__name__" := by decide) (hdb : (x == ("__debug__" : Str)) = false := by decide)
    (he : starEach (e :: es) X.env = (false, eval e X.env) :: starEach es X.env := by rfl) (hpl : (backTo pos (starEach es X.env)).any (·.1) = false := by rfl) : JE X W (.Call (.Name x p) (e :: es) [] pos) (fArgs g fs) :=
  pe_imp (pe_callTy hc hg hm hv ha hn hdb he hpl) fun σ H Q h => args_imp h
/-- .. a module's name for a built-in function -/
theorem je_callBfun {x : Str} {id : String} {g : List D → S → Option (D × S)} (hc : CallR X (.builtin id) (rDL X.K g)) (hg : Gl X x) (hm : X.mg x = some (.builtin id)) (ha : JA X W (e :: es) fs) (hdb : (x == ("__debug__" : Str)) = false := by decide)
    (he : starEach (e :: es) X.env = (false, eval e X.env) :: starEach es X.env := by rfl) (hpl : (backTo pos (starEach es X.env)).any (·.1) = false := by rfl) : JE X W (.Call (.Name x p) (e :: es) [] pos) (fArgs g fs) :=
  pe_imp (pe_callBfun hc hg hm ha hdb he hpl) fun σ H Q h => args_imp h

/-! ### tests -/
theorem jt_val (h : JE X W a fa) (he : ∀ whole, isTrue a X.env whole = (do let v ← whole; standAt a.pos; holding [v] (truthy v)) := by intro _; rfl) : JT X W a (fIsB fa) := by
  refine pt_imp (pt_val h he) fun σ H Q h => ?_
  obtain ⟨m, st, ρ, rs, re, h⟩ := h
  refine re_bind (k := fun x st1 ρ => match x with | .bl b => .ok b st1 | _ => .bad) rs re h fun x st1 m1 H1 v1 r1 re1 mn1 rv1 h1 => ?_
  cases x with
  | bl b => exact ⟨b, rv1, h1 m1 H1 r1 Mn.refl⟩
  | _ => exact h1.elim
theorem jt_cmp {op : CmpOp} {g : D → D → S → Option (D × S)} (ho : OpR X (compareOp op) (rD X.K g)) (ha : JE X W a fa) (hb : JE X W b fb) (hm : behindInMarks op b = false) : JT X W (.Compare a [op] [b] pos) (fIsB (fBin g fa fb)) := by
  refine pt_imp (pt_cmpR ho ha hb hm) fun σ H Q h => ?_
  refine bin_imp (fun _ _ _ _ q => q) ?_
  obtain ⟨m, st, ρ, rs, re, h⟩ := h
  refine re_bind (k := fun x st1 ρ => match x with | .bl b => .ok b st1 | _ => .bad) rs re h fun x st1 m1 H1 v1 r1 re1 mn1 rv1 h1 => ?_
  cases x with
  | bl b => exact ⟨b, rv1, h1 m1 H1 r1 Mn.refl⟩
  | _ => exact h1.elim
theorem tru_of {m : Nat → Addr} {st : S} {H : Hp} {d : D} {v : V} {b : Bool} (r : RS X.K m st H) (rv : RV X.K m st.length H d v) (h : truD st d = some b) : TruV X.K v H b := by
  cases d with
  | non => cases rv; exact (Option.some.inj h).symm
  | bl c => cases rv; exact (Option.some.inj h).symm
  | int i => cases rv; exact (Option.some.inj h).symm
  | str x =>
    cases rv
    replace h : (if x.length ≤ sizeLine then some (x.length != 0) else none) = some b := h
    by_cases hl : x.length ≤ sizeLine
    · rw [if_pos hl] at h
      have e : (((x.length : Nat) : Int) != 0) = (x.length != 0) := by
        cases q : x.length with
        | zero => rfl
        | succ k => rw [bne_iff_ne.mpr (by omega : ((k + 1 : Nat) : Int) ≠ 0), bne_iff_ne.mpr (by omega : k + 1 ≠ 0)]
      exact ⟨hl, by rw [e]; exact (Option.some.inj h).symm⟩
    · rw [if_neg hl] at h; cases h
  | tup ds =>
    obtain ⟨a, vs, e, h1, h2⟩ := rv
    subst e
    refine .inr (.inl ⟨vs, h1, ?_⟩)
    have z := (Option.some.inj h).symm
    rw [z]
    have l := RVs.len h2
    cases ds with
    | nil => cases vs with
      | nil => rfl
      | cons _ _ => simp at l
    | cons _ _ => cases vs with
      | nil => simp at l
      | cons _ _ => rfl
  | loc n =>
    obtain ⟨h1, e⟩ := rv
    subst e
    have same : ∀ {ds : List D} {vs : List V}, RVs X.K m st.length H ds vs → (!vs.isEmpty) = (!ds.isEmpty) := fun {ds vs} r => by
      have l := RVs.len r
      cases ds with
      | nil => cases vs with
        | nil => rfl
        | cons _ _ => simp at l
      | cons _ _ => cases vs with
        | nil => simp at l
        | cons _ _ => rfl
    obtain ⟨ds, e1, e2⟩ := Option.map_eq_some_iff.mp (show (lstAt st n).map (fun ds => !ds.isEmpty) = some b from h)
    obtain ⟨vs, g1, g2, _⟩ := lstAt_ok r e1
    exact .inl ⟨vs, g1, by rw [same g2]; exact e2.symm⟩
theorem jt_tru (h : JE X W a fa) (he : ∀ whole, isTrue a X.env whole = (do let v ← whole; standAt a.pos; holding [v] (truthy v)) := by intro _; rfl) : JT X W a (fTru fa) := by
  refine pt_imp (pt_truth h he) fun σ H Q h => ?_
  obtain ⟨m, st, ρ, rs, re, h⟩ := h
  refine re_bind (k := fun x st1 ρ => match truD st1 x with | some b => .ok b st1 | none => .bad) rs re h fun x st1 m1 H1 v1 r1 re1 mn1 rv1 h1 => ?_
  cases q : truD st1 x with
  | none => simp only [q] at h1; exact h1.elim
  | some b =>
    simp only [q] at h1
    exact ⟨b, tru_of r1 rv1 q, h1 m1 H1 r1 Mn.refl⟩
variable {ga gb : FT}
theorem jw_and1 (ha : JT X W a ga) : JW X W (.BoolOp .And [a] pos) ga := pw_and1 ha
theorem jw_or1 (ha : JT X W a ga) : JW X W (.BoolOp .Or [a] pos) ga := pw_or1 ha
theorem jw_and (ha : JT X W a ga) (hb : JW X W (.BoolOp .And (b :: rest) pos) gb) : JW X W (.BoolOp .And (a :: b :: rest) pos) (fAnd ga gb) := by
  refine pw_imp (pw_and ha hb) fun σ H Q h => ?_
  obtain ⟨m, st, ρ, rs, re, h⟩ := h
  refine rt_bind (k := fun x st1 ρ => if x = true then gb ρ st1 else .ok false st1) rs re h fun x st1 m1 H1 r1 re1 mn1 h1 => ?_
  cases x with
  | true => rw [if_pos rfl] at h1 ⊢; exact ⟨m1, st1, ρ, r1, re1, h1⟩
  | false => rw [if_neg Bool.false_ne_true] at h1 ⊢; exact h1 m1 H1 r1 Mn.refl
theorem jw_or (ha : JT X W a ga) (hb : JW X W (.BoolOp .Or (b :: rest) pos) gb) : JW X W (.BoolOp .Or (a :: b :: rest) pos) (fOr ga gb) := by
  refine pw_imp (pw_or ha hb) fun σ H Q h => ?_
  obtain ⟨m, st, ρ, rs, re, h⟩ := h
  refine rt_bind (k := fun x st1 ρ => if x = true then .ok true st1 else gb ρ st1) rs re h fun x st1 m1 H1 r1 re1 mn1 h1 => ?_
  cases x with
  | true => rw [if_pos rfl] at h1 ⊢; exact h1 m1 H1 r1 Mn.refl
  | false => rw [if_neg Bool.false_ne_true] at h1 ⊢; exact ⟨m1, st1, ρ, r1, re1, h1⟩
theorem jt_not (ha : JT X W a ga) : JT X W (.UnaryOp .Not a pos) (fNot ga) := by
  refine pt_imp (pt_not ha) fun σ H Q h => ?_
  obtain ⟨m, st, ρ, rs, re, h⟩ := h
  refine rt_bind (k := fun x st1 ρ => .ok (!x) st1) rs re h fun x st1 m1 H1 r1 re1 mn1 h1 => h1 m1 H1 r1 Mn.refl
theorem je_one {op : BoolOp} (h : JE X W a fa) : JE X W (.BoolOp op [a] pos) fa := pe_one h
theorem isb_imp {σ : L2.St} {H : Hp} {α : Type} {k : Bool → S → En → Out α} {m : Nat → Addr} {st : S} {ρ : En} {Qa : α → S → (Nat → Addr) → Hp → Prop} {R : V → Hp → Prop}
    (rs : RS X.K m st H) (re : RE W.gh X.K m st.length H ρ σ) (h : Meet X.K X.mg m st.length H ((fIsB fa ρ st).bind fun d st1 => k d st1 ρ) Qa (fun cls od H' => W.W cls od σ H'))
    (hr : ∀ d st1 m1 H1, RS X.K m1 st1 H1 → RE W.gh X.K m1 st1.length H1 ρ σ → Mn X.K m st.length H m1 st1.length H1 → Meet X.K X.mg m1 st1.length H1 (k d st1 ρ) Qa (fun cls od H' => W.W cls od σ H') → R (.bl d) H1) : rE X.K X.mg W fa σ H R := by
  have e : ((fIsB fa ρ st).bind fun d st1 => k d st1 ρ) = ((fa ρ st).bind fun x st1 => (match x with | .bl b => Out.ok b st1 | _ => .bad).bind fun d st2 => k d st2 ρ) := by
    unfold fIsB
    cases fa ρ st <;> rfl
  rw [e] at h
  refine re_bind (k := fun x st1 ρ => (match x with | .bl b => Out.ok b st1 | _ => .bad).bind fun d st2 => k d st2 ρ) rs re h fun x st1 m1 H1 v1 r1 re1 mn1 rv1 h1 => ?_
  cases x with
  | bl b => cases rv1; exact hr b st1 m1 H1 r1 re1 mn1 h1
  | _ => exact h1.elim
theorem je_and (ha : JE X W a fa) (hb : JE X W (.BoolOp .And (b :: rest) pos) fb) : JE X W (.BoolOp .And (a :: b :: rest) pos) (fAndV fa fb) := by
  refine pe_imp (pe_and ha hb) fun σ H Q h => ?_
  obtain ⟨m, st, ρ, rs, re, h⟩ := h
  refine isb_imp (α := D) (k := fun x st1 ρ => if x = true then fb ρ st1 else .ok (.bl false) st1) rs re h fun x st1 m1 H1 r1 re1 mn1 h1 => ⟨x, rfl, ?_⟩
  cases x with
  | true => rw [if_pos rfl] at h1 ⊢; exact ⟨m1, st1, ρ, r1, re1, h1⟩
  | false => rw [if_neg Bool.false_ne_true] at h1 ⊢; exact h1 m1 H1 r1 Mn.refl _ rfl
theorem je_or (ha : JE X W a fa) (hb : JE X W (.BoolOp .Or (b :: rest) pos) fb) : JE X W (.BoolOp .Or (a :: b :: rest) pos) (fOrV fa fb) := by
  refine pe_imp (pe_or ha hb) fun σ H Q h => ?_
  obtain ⟨m, st, ρ, rs, re, h⟩ := h
  refine isb_imp (α := D) (k := fun x st1 ρ => if x = true then .ok (.bl true) st1 else fb ρ st1) rs re h fun x st1 m1 H1 r1 re1 mn1 h1 => ⟨x, rfl, ?_⟩
  cases x with
  | true => rw [if_pos rfl] at h1 ⊢; exact h1 m1 H1 r1 Mn.refl _ rfl
  | false => rw [if_neg Bool.false_ne_true] at h1 ⊢; exact ⟨m1, st1, ρ, r1, re1, h1⟩
theorem je_not (ha : JE X W a fa) : JE X W (.UnaryOp .Not a pos) (fNotV fa) := by
  refine pe_imp (pe_not ha) fun σ H Q h => ?_
  obtain ⟨m, st, ρ, rs, re, h⟩ := h
  exact isb_imp (α := D) (k := fun x st1 ρ => .ok (.bl (!x)) st1) rs re h fun x st1 m1 H1 r1 re1 mn1 h1 => ⟨x, rfl, h1 m1 H1 r1 Mn.refl _ rfl⟩
theorem je_if (hc : JT X W c ga) (ha : JE X W a fa) (hb : JE X W b fb) : JE X W (.IfExp c a b pos) (fIf ga fa fb) := by
  refine pe_imp (pe_ifExp hc ha hb) fun σ H Q h => ?_
  obtain ⟨m, st, ρ, rs, re, h⟩ := h
  refine rt_bind (k := fun x st1 ρ => if x = true then fa ρ st1 else fb ρ st1) rs re h fun x st1 m1 H1 r1 re1 mn1 h1 => ?_
  cases x with
  | true => rw [if_pos rfl] at h1 ⊢; exact ⟨m1, st1, ρ, r1, re1, h1⟩
  | false => rw [if_neg Bool.false_ne_true] at h1 ⊢; exact ⟨m1, st1, ρ, r1, re1, h1⟩
end
end MP

set_option Elab.async false
set_option linter.all false
set_option maxRecDepth 100000
set_option maxHeartbeats 4000000
namespace MP
open PySem L2

/-! ### operations by data -/
def gAdd (x y : D) (st : S) : Option (D × S) := match x, y with
  | .int i, .int j => some (.int (i + j), st)
  | .str a, .str b => if a.length + b.length ≤ sizeLine then some (.str (a ++ b), st) else none
  | .tup xs, .tup ys => if xs.length + ys.length ≤ sizeLine then some (.tup (xs ++ ys), st) else none
  | .loc a, .loc b => match st[a]?, st[b]? with
    | some (.lst xs), some (.lst ys) => if xs.length + ys.length ≤ sizeLine then some (.loc st.length, st ++ [.lst (xs ++ ys)]) else none
    | _, _ => none
  | _, _ => none
def gSub (x y : D) (st : S) : Option (D × S) := match x, y with
  | .int i, .int j => some (.int (i - j), st)
  | _, _ => none
def MulOk (i j : Int) : Prop := CMul i j ∨ CMulW i j
noncomputable instance (i j : Int) : Decidable (MulOk i j) := Classical.propDecidable _
noncomputable def gMul (x y : D) (st : S) : Option (D × S) := match x, y with
  | .int i, .int j => if MulOk i j then some (.int (i * j), st) else none
  | .loc a, .int k => match st[a]? with
    | some (.lst xs) => if -(2 ^ 63) ≤ k ∧ k < 2 ^ 63 ∧ xs.length * k.toNat ≤ sizeLine then some (.loc st.length, st ++ [.lst (List.replicate k.toNat xs).flatten]) else none
    | _ => none
  | _, _ => none
def DivOk (j : Int) : Prop := 0 < j ∧ j.natAbs.log2 < 9000
instance (j : Int) : Decidable (DivOk j) := by unfold DivOk; infer_instance
def gDiv (x y : D) (st : S) : Option (D × S) := match x, y with
  | .int i, .int j => if DivOk j then some (.int (i / j), st) else none
  | _, _ => none
def gMod (x y : D) (st : S) : Option (D × S) := match x, y with
  | .int i, .int j => if 0 < j then some (.int (i % j), st) else none
  | _, _ => none
def gPow (x y : D) (st : S) : Option (D × S) := match x, y with
  | .int i, .int j => if 0 ≤ j ∧ j ≤ 1000000 ∧ i.natAbs < 2 ^ 64 then some (.int (i ^ j.toNat), st) else none
  | _, _ => none
def gNeg (x : D) (st : S) : Option (D × S) := match x with
  | .int i => some (.int (-i), st)
  | _ => none
section
variable {X : Cx}
theorem opd_add : OpR X (binaryOp .Add) (rD X.K gAdd) := by
  intro pins s σ H x y v u Q I rx ry h
  obtain ⟨m, st, dx, dy, d, st', rs, r1, r2, e, fin⟩ := h
  unfold gAdd at e
  split at e
  · cases r1; cases r2; cases e
    exact op_add pins s σ H _ _ v u Q I rx ry ⟨_, _, rfl, rfl, fin.here rs rfl⟩
  · cases r1; cases r2
    split at e
    · rename_i hl
      cases e
      exact op_add_str pins s σ H _ _ v u Q I rx ry ⟨_, _, rfl, rfl, hl, fin.here rs rfl⟩
    · cases e
  · obtain ⟨a, xs, e1, q1, v1⟩ := r1
    obtain ⟨b, ys, e2, q2, v2⟩ := r2
    subst e1 e2
    split at e
    · rename_i hl
      cases e
      have l1 := RVs.len v1
      have l2 := RVs.len v2
      refine op_catA pins s σ H _ _ v u Q I rx ry ⟨a, b, xs, ys, rfl, rfl, q1, q2, by omega, fun z => ?_, fun _ z => ?_, fun _ _ p hp => fin.tup rs (RVs.app v1 v2) hp⟩
      · have z2 : xs = [] := z
        subst z2
        have := RVs.app v1 v2
        exact fin.here rs ⟨b, _, rfl, q2, by simpa using this⟩
      · have z2 : ys = [] := z
        subst z2
        have := RVs.app v1 v2
        exact fin.here rs ⟨a, _, rfl, q1, by simpa using this⟩
    · cases e
  · obtain ⟨h1, e1⟩ := r1
    obtain ⟨h2, e2⟩ := r2
    subst e1 e2
    split at e
    · rename_i q1 q2
      split at e
      · rename_i hl
        cases e
        obtain ⟨xs, g1, v1⟩ := rs.at_ _ _ q1
        obtain ⟨ys, g2, v2⟩ := rs.at_ _ _ q2
        have l1 := RVs.len v1
        have l2 := RVs.len v2
        exact op_cat pins s σ H _ _ v u Q I rx ry ⟨_, _, xs, ys, rfl, rfl, g1, g2, by omega, fun p hp => fin.lst rs (RVs.app v1 v2) hp⟩
      · cases e
    · cases e
  · cases e
theorem opd_sub : OpR X (binaryOp .Sub) (rD X.K gSub) := by
  intro pins s σ H x y v u Q I rx ry h
  obtain ⟨m, st, dx, dy, d, st', rs, r1, r2, e, fin⟩ := h
  unfold gSub at e
  split at e
  · cases r1; cases r2; cases e
    exact op_sub pins s σ H _ _ v u Q I rx ry ⟨_, _, rfl, rfl, fin.here rs rfl⟩
  · cases e
theorem opd_mul : OpR X (binaryOp .Mult) (rD X.K gMul) := by
  intro pins s σ H x y v u Q I rx ry h
  obtain ⟨m, st, dx, dy, d, st', rs, r1, r2, e, fin⟩ := h
  unfold gMul at e
  split at e
  · cases r1; cases r2
    split at e
    · rename_i hm
      cases e
      rcases hm with hm | hm
      · exact op_mul pins s σ H _ _ v u Q I rx ry ⟨_, _, rfl, rfl, hm, fin.here rs rfl⟩
      · exact op_mulW pins s σ H _ _ v u Q I rx ry ⟨_, _, rfl, rfl, hm, fin.here rs rfl⟩
    · cases e
  · obtain ⟨h1, e1⟩ := r1
    cases r2
    subst e1
    split at e
    · rename_i q1
      split at e
      · rename_i hl
        cases e
        obtain ⟨xs, g1, v1⟩ := rs.at_ _ _ q1
        have l1 := RVs.len v1
        refine op_rep pins s σ H _ _ v u Q I rx ry ⟨_, _, xs, rfl, rfl, g1, hl.1, hl.2.1, by rw [← l1]; exact hl.2.2, fun p hp => fin.lst rs ?_ hp⟩
        have rep : ∀ n : Nat, RVs X.K m st.length H (List.replicate n _).flatten (List.replicate n xs).flatten := fun n => by
          induction n with
          | zero => exact rfl
          | succ n ih =>
            rw [List.replicate_succ, List.replicate_succ, List.flatten_cons, List.flatten_cons]
            exact RVs.app v1 ih
        exact rep _
      · cases e
    · cases e
  · cases e
theorem opd_div : OpR X (binaryOp .FloorDiv) (rD X.K gDiv) := by
  intro pins s σ H x y v u Q I rx ry h
  obtain ⟨m, st, dx, dy, d, st', rs, r1, r2, e, fin⟩ := h
  unfold gDiv at e
  split at e
  · cases r1; cases r2
    split at e
    · rename_i hm
      cases e
      exact op_fdivW pins s σ H _ _ v u Q I rx ry ⟨_, _, rfl, rfl, hm, fin.here rs rfl⟩
    · cases e
  · cases e
theorem opd_mod : OpR X (binaryOp .Mod) (rD X.K gMod) := by
  intro pins s σ H x y v u Q I rx ry h
  obtain ⟨m, st, dx, dy, d, st', rs, r1, r2, e, fin⟩ := h
  unfold gMod at e
  split at e
  · cases r1; cases r2
    split at e
    · rename_i hm
      cases e
      exact op_mod pins s σ H _ _ v u Q I rx ry ⟨_, _, rfl, rfl, hm, fin.here rs rfl⟩
    · cases e
  · cases e
theorem opd_pow : OpR X (binaryOp .Pow) (rD X.K gPow) := by
  intro pins s σ H x y v u Q I rx ry h
  obtain ⟨m, st, dx, dy, d, st', rs, r1, r2, e, fin⟩ := h
  unfold gPow at e
  split at e
  · cases r1; cases r2
    split at e
    · rename_i hm
      cases e
      exact op_pow pins s σ H _ _ v u Q I rx ry ⟨_, _, rfl, rfl, hm, fin.here rs rfl⟩
    · cases e
  · cases e
theorem und_neg : UnR X (unaryOp .USub) (rD1 X.K gNeg) := by
  intro pins s σ H x v Q I rx h
  obtain ⟨m, st, dx, d, st', rs, r1, e, fin⟩ := h
  unfold gNeg at e
  split at e
  · cases r1; cases e
    exact un_neg pins s σ H _ v Q I rx ⟨_, rfl, fin.here rs rfl⟩
  · cases e
end
/-! ### comparisons -/
def gLt (x y : D) (st : S) : Option (D × S) := match x, y with
  | .int i, .int j => some (.bl (decide (i < j)), st)
  | _, _ => none
def gLe (x y : D) (st : S) : Option (D × S) := match x, y with
  | .int i, .int j => some (.bl (decide (i ≤ j)), st)
  | _, _ => none
def gGt (x y : D) (st : S) : Option (D × S) := match x, y with
  | .int i, .int j => some (.bl (decide (j < i)), st)
  | _, _ => none
def gGe (x y : D) (st : S) : Option (D × S) := match x, y with
  | .int i, .int j => some (.bl (decide (j ≤ i)), st)
  | _, _ => none
mutual
/-- a datum without places, as the library's own data -/
def pdV : D → Option PyData
  | .non => some .none
  | .bl b => some (.bool b)
  | .int i => some (.int i)
  | .str x => some (.str x)
  | .tup ds => (pdVs ds).map .tuple
  | .loc _ => none
def pdVs : List D → Option (List PyData)
  | [] => some []
  | d :: ds => match pdV d, pdVs ds with
    | some x, some xs => some (x :: xs)
    | _, _ => none
end
def pdD (st : S) : D → Option PyData
  | .loc n => (lstAt st n).bind fun ds => (pdVs ds).map .list
  | d => pdV d
section
variable {K : PySem.W.Frag} {m : Nat → Addr} {n : Nat} {H : Hp}
mutual
theorem dp_of : ∀ (d : D) (v : V) (x : PyData), RV K m n H d v → pdV d = some x → Dp K H v x
  | .non, v, x, h, e => by cases h; cases e; exact .non
  | .bl b, v, x, h, e => by cases h; cases e; exact .bl b
  | .int i, v, x, h, e => by cases h; cases e; exact .int i
  | .str s, v, x, h, e => by cases h; cases e; exact .str s
  | .loc k, v, x, h, e => by simp [pdV] at e
  | .tup ds, v, x, h, e => by
    obtain ⟨a, vs, rfl, h1, h2⟩ := h
    unfold pdV at e
    cases q : pdVs ds with
    | none => rw [q] at e; cases e
    | some xs =>
      rw [q] at e
      cases e
      exact .tup h1 (dps_of ds vs xs h2 q)
theorem dps_of : ∀ (ds : List D) (vs : List V) (xs : List PyData), RVs K m n H ds vs → pdVs ds = some xs → DpAll K H vs xs
  | [], vs, xs, h, e => by cases h; cases e; exact .nil
  | d :: ds, vs, xs, h, e => by
    obtain ⟨v, r, rfl, h1, h2⟩ := h
    unfold pdVs at e
    cases q1 : pdV d with
    | none => rw [q1] at e; cases e
    | some y =>
      rw [q1] at e
      cases q2 : pdVs ds with
      | none => rw [q2] at e; cases e
      | some ys =>
        rw [q2] at e
        cases e
        exact .cons (dp_of d v y h1 q1) (dps_of ds r ys h2 q2)
end
theorem dpd_of {st : S} (rs : RS K m st H) {d : D} {v : V} {x : PyData} (h : RV K m st.length H d v) (e : pdD st d = some x) : Dp K H v x := by
  cases d with
  | loc k =>
    obtain ⟨_, rfl⟩ := h
    obtain ⟨ds, e1, e2⟩ := Option.bind_eq_some_iff.mp (show (lstAt st k).bind (fun ds => (pdVs ds).map .list) = some x from e)
    obtain ⟨ys, e3, rfl⟩ := Option.map_eq_some_iff.mp e2
    obtain ⟨vs, g1, g2, _⟩ := lstAt_ok rs e1
    exact .lst g1 (dps_of ds vs ys g2 e3)
  | non => exact dp_of _ _ _ h e
  | bl b => exact dp_of _ _ _ h e
  | int i => exact dp_of _ _ _ h e
  | str s => exact dp_of _ _ _ h e
  | tup ds => exact dp_of _ _ _ h e
end
/-- x == y -/
def eqB (st : S) (x y : D) : Option Bool := match x, y with
  | .int i, .int j => some (decide (i = j))
  | .str a, .str b => some (decide (a = b))
  | .bl a, .bl b => some (decide (a = b))
  | .non, .non => some true
  | .non, .int _ => some false
  | .non, .str _ => some false
  | .int _, .non => some false
  | .str _, .non => some false
  | .int _, .str _ => some false
  | .str _, .int _ => some false
  | x, y => match pdD st x, pdD st y with
    | some a, some b => if SeqAt.shaped a = true ∧ SeqAt.shaped b = true then some (PyData.eqv a b) else none
    | _, _ => none
def gEq (x y : D) (st : S) : Option (D × S) := (eqB st x y).map fun b => (.bl b, st)
def gNe (x y : D) (st : S) : Option (D × S) := (eqB st x y).map fun b => (.bl (!b), st)
section
variable {X : Cx}
theorem eqB_ok {m : Nat → Addr} {st : S} {H : Hp} {dx dy : D} {x y : V} {b : Bool} {Q : VK} (rs : RS X.K m st H) (r1 : RV X.K m st.length H dx x) (r2 : RV X.K m st.length H dy y) (e : eqB st dx dy = some b) (k : Bool → Bool) (q : Q (.bl (k b)) H) :
    (scal x y = true ∧ Q (.bl (k (decide (x = y)))) H) ∨ ∃ a c, Dp X.K H x a ∧ Dp X.K H y c ∧ SeqAt.shaped a = true ∧ SeqAt.shaped c = true ∧ Q (.bl (k (PyData.eqv a c))) H := by
  have z : ∀ {c : Prop} [Decidable c] {c2 : Prop} [Decidable c2], (c ↔ c2) → Q (.bl (k (decide c2))) H → Q (.bl (k (decide c))) H := fun {c} _ {c2} _ i q => by
    rw [show decide c = decide c2 from by simp [i]]; exact q
  unfold eqB at e
  split at e
  · cases r1; cases r2; cases e; exact .inl ⟨rfl, z (by simp) q⟩
  · cases r1; cases r2; cases e; exact .inl ⟨rfl, z (by simp) q⟩
  · cases r1; cases r2; cases e; exact .inl ⟨rfl, z (by simp) q⟩
  · cases r1; cases r2; cases e; exact .inl ⟨rfl, z (c2 := True) (by simp) (by simpa using q)⟩
  · cases r1; cases r2; cases e; exact .inl ⟨rfl, z (c2 := False) (by simp) (by simpa using q)⟩
  · cases r1; cases r2; cases e; exact .inl ⟨rfl, z (c2 := False) (by simp) (by simpa using q)⟩
  · cases r1; cases r2; cases e; exact .inl ⟨rfl, z (c2 := False) (by simp) (by simpa using q)⟩
  · cases r1; cases r2; cases e; exact .inl ⟨rfl, z (c2 := False) (by simp) (by simpa using q)⟩
  · cases r1; cases r2; cases e; exact .inl ⟨rfl, z (c2 := False) (by simp) (by simpa using q)⟩
  · cases r1; cases r2; cases e; exact .inl ⟨rfl, z (c2 := False) (by simp) (by simpa using q)⟩
  · split at e
    · rename_i a c q1 q2
      split at e
      · rename_i hs
        cases e
        exact .inr ⟨a, c, dpd_of rs r1 q1, dpd_of rs r2 q2, hs.1, hs.2, q⟩
      · cases e
    · cases e
theorem opd_eq (hu : X.A.units + 64 < cLine) : OpR X (compareOp .Eq) (rD X.K gEq) := by
  intro pins s σ H x y v u Q I rx ry h
  obtain ⟨m, st, dx, dy, d, st', rs, r1, r2, e, fin⟩ := h
  unfold gEq at e
  obtain ⟨b, e1, e2⟩ := Option.map_eq_some_iff.mp e
  cases e2
  rcases eqB_ok (k := id) rs r1 r2 e1 (fin.here rs rfl) with q | q
  · exact op_eq pins s σ H x y v u Q I rx ry q
  · exact op_eqD hu pins s σ H x y v u Q I rx ry q
theorem opd_ne (hu : X.A.units + 64 < cLine) : OpR X (compareOp .NotEq) (rD X.K gNe) := by
  intro pins s σ H x y v u Q I rx ry h
  obtain ⟨m, st, dx, dy, d, st', rs, r1, r2, e, fin⟩ := h
  unfold gNe at e
  obtain ⟨b, e1, e2⟩ := Option.map_eq_some_iff.mp e
  cases e2
  rcases eqB_ok (k := fun b => !b) rs r1 r2 e1 (fin.here rs rfl) with q | q
  · exact op_ne pins s σ H x y v u Q I rx ry q
  · exact op_neD hu pins s σ H x y v u Q I rx ry q
theorem opd_lt : OpR X (compareOp .Lt) (rD X.K gLt) := by
  intro pins s σ H x y v u Q I rx ry h
  obtain ⟨m, st, dx, dy, d, st', rs, r1, r2, e, fin⟩ := h
  unfold gLt at e
  split at e
  · cases r1; cases r2; cases e
    exact op_lt pins s σ H _ _ v u Q I rx ry ⟨_, _, rfl, rfl, fin.here rs rfl⟩
  · cases e
theorem opd_le : OpR X (compareOp .LtE) (rD X.K gLe) := by
  intro pins s σ H x y v u Q I rx ry h
  obtain ⟨m, st, dx, dy, d, st', rs, r1, r2, e, fin⟩ := h
  unfold gLe at e
  split at e
  · cases r1; cases r2; cases e
    exact op_le pins s σ H _ _ v u Q I rx ry ⟨_, _, rfl, rfl, fin.here rs rfl⟩
  · cases e
theorem opd_gt : OpR X (compareOp .Gt) (rD X.K gGt) := by
  intro pins s σ H x y v u Q I rx ry h
  obtain ⟨m, st, dx, dy, d, st', rs, r1, r2, e, fin⟩ := h
  unfold gGt at e
  split at e
  · cases r1; cases r2; cases e
    exact op_gt pins s σ H _ _ v u Q I rx ry ⟨_, _, rfl, rfl, fin.here rs rfl⟩
  · cases e
theorem opd_ge : OpR X (compareOp .GtE) (rD X.K gGe) := by
  intro pins s σ H x y v u Q I rx ry h
  obtain ⟨m, st, dx, dy, d, st', rs, r1, r2, e, fin⟩ := h
  unfold gGe at e
  split at e
  · cases r1; cases r2; cases e
    exact op_ge pins s σ H _ _ v u Q I rx ry ⟨_, _, rfl, rfl, fin.here rs rfl⟩
  · cases e
end
/-! ### is -/
def gIs (x y : D) (st : S) : Option (D × S) := match x, y with
  | .bl a, .bl b => some (.bl (decide (a = b)), st)
  | x, .non => some (.bl (decide (x = .non)), st)
  | _, _ => none
def gIsNot (x y : D) (st : S) : Option (D × S) := match x, y with
  | .bl a, .bl b => some (.bl (!decide (a = b)), st)
  | x, .non => some (.bl (!decide (x = .non)), st)
  | _, _ => none
section
variable {X : Cx}
theorem non_iff {K : PySem.W.Frag} {m : Nat → Addr} {n : Nat} {H : Hp} {d : D} {v : V} (h : RV K m n H d v) : decide (v = .non) = decide (d = .non) := by
  cases d with
  | non => cases h; rfl
  | bl b => cases h; rfl
  | int i => cases h; rfl
  | str x => cases h; rfl
  | loc k => obtain ⟨_, rfl⟩ := h; rfl
  | tup ds => obtain ⟨a, vs, rfl, _⟩ := h; rfl
theorem opd_is : OpR X (compareOp .Is) (rD X.K gIs) := by
  intro pins s σ H x y v u Q I rx ry h
  obtain ⟨m, st, dx, dy, d, st', rs, r1, r2, e, fin⟩ := h
  unfold gIs at e
  split at e
  · cases r1; cases r2; cases e
    exact op_isBl pins s σ H _ _ v u Q I rx ry ⟨_, _, rfl, rfl, fin.here rs rfl⟩
  · cases r2; cases e
    refine op_isN pins s σ H _ _ v u Q I rx ry ⟨rfl, ?_⟩
    rw [non_iff r1]
    exact fin.here rs rfl
  · cases e
theorem opd_isnot : OpR X (compareOp .IsNot) (rD X.K gIsNot) := by
  intro pins s σ H x y v u Q I rx ry h
  obtain ⟨m, st, dx, dy, d, st', rs, r1, r2, e, fin⟩ := h
  unfold gIsNot at e
  split at e
  · cases r1; cases r2; cases e
    exact op_notBl pins s σ H _ _ v u Q I rx ry ⟨_, _, rfl, rfl, fin.here rs rfl⟩
  · cases r2; cases e
    refine op_notN pins s σ H _ _ v u Q I rx ry ⟨rfl, ?_⟩
    rw [non_iff r1]
    exact fin.here rs rfl
  · cases e
end
/-! ### subscripts, slices -/
def gIx (x y : D) (st : S) : Option (D × S) := match x, y with
  | .tup ds, .int i => (atI ds i).map fun d => (d, st)
  | .loc n, .int i => match lstAt st n with
    | some ds => (atI ds i).map fun d => (d, st)
    | none => none
  | .str z, .int i => if z.length ≤ sizeLine then (atI z.cps.toList i).map fun c => (.str ⟨#[c]⟩, st) else none
  | _, _ => none
theorem atI_rel {K : PySem.W.Frag} {m : Nat → Addr} {n : Nat} {H : Hp} {ds : List D} {vs : List V} {i : Int} {d : D} (h : RVs K m n H ds vs) (e : atI ds i = some d) : ∃ v, atI vs i = some v ∧ RV K m n H d v := by
  unfold atI at e
  obtain ⟨j, e1, e2⟩ := Option.bind_eq_some_iff.mp e
  obtain ⟨v, h1, h2⟩ := RVs.get h e2
  refine ⟨v, ?_, h2⟩
  unfold atI
  rw [← RVs.len h, e1]
  exact h1
section
variable {X : Cx}
theorem ixd : IxR X (rD X.K gIx) := by
  intro value slice pins s σ H x y v u Q I rx ry h hs
  obtain ⟨m, st, dx, dy, d, st', rs, r1, r2, e, fin⟩ := h
  unfold gIx at e
  split at e
  · obtain ⟨a, vs, rfl, q1, q2⟩ := r1
    cases r2
    obtain ⟨d2, e1, e2⟩ := Option.map_eq_some_iff.mp e
    cases e2
    obtain ⟨w, h1, h2⟩ := atI_rel q2 e1
    exact ix_tup value slice pins s σ H _ _ v u Q I rx ry ⟨a, vs, _, w, rfl, rfl, q1, h1, fin.here rs h2⟩ hs
  · obtain ⟨_, rfl⟩ := r1
    cases r2
    split at e
    · rename_i q
      obtain ⟨vs, g1, g2, _⟩ := lstAt_ok rs q
      obtain ⟨d2, e1, e2⟩ := Option.map_eq_some_iff.mp e
      cases e2
      obtain ⟨w, h1, h2⟩ := atI_rel g2 e1
      exact ix_list value slice pins s σ H _ _ v u Q I rx ry ⟨_, vs, _, w, rfl, rfl, g1, h1, fin.here rs h2⟩ hs
    · cases e
  · cases r1; cases r2
    split at e
    · rename_i hl
      obtain ⟨c, e1, e2⟩ := Option.map_eq_some_iff.mp e
      cases e2
      exact ix_str value slice pins s σ H _ _ v u Q I rx ry ⟨_, _, c, rfl, rfl, hl, e1, fin.here rs rfl⟩ hs
    · cases e
  · cases e
end
def cutD (xs : List D) (lo hi : Option Int) : List D := (xs.drop (HT.sIx xs.length 0 lo)).take (HT.sIx xs.length xs.length hi - HT.sIx xs.length 0 lo)
theorem cut_rel {K : PySem.W.Frag} {m : Nat → Addr} {n : Nat} {H : Hp} {ds : List D} {vs : List V} {lo hi : Option Int} (h : RVs K m n H ds vs) : RVs K m n H (cutD ds lo hi) (cutV vs lo hi) := by
  unfold cutD cutV
  rw [← RVs.len h]
  exact RVs.take _ (RVs.drop _ h)
def gSl (x : D) (lo hi : Option Int) (st : S) : Option (D × S) := match x with
  | .tup ds => some (.tup (cutD ds lo hi), st)
  | .loc n => match lstAt st n with
    | some ds => some (.loc st.length, st ++ [.lst (cutD ds lo hi)])
    | none => none
  | .str z => if z.length ≤ sizeLine then some (.str (cutS z lo hi), st) else none
  | _ => none
def rDS (K : PySem.W.Frag) (g : D → Option Int → Option Int → S → Option (D × S)) : V → Option Int → Option Int → Hp → VK → Prop := fun x lo hi H Q => ∃ m st dx d st', RS K m st H ∧ RV K m st.length H dx x ∧ g dx lo hi st = some (d, st') ∧ Fin K m st H d st' Q
theorem cut_whole {α : Type} (xs : List α) (lo hi : Option Int) (h : HT.sIx xs.length 0 lo = 0 ∧ HT.sIx xs.length xs.length hi = xs.length) : (xs.drop (HT.sIx xs.length 0 lo)).take (HT.sIx xs.length xs.length hi - HT.sIx xs.length 0 lo) = xs := by
  rw [h.1, h.2]
  simp
section
variable {X : Cx}
theorem sld : SlR X (rDS X.K gSl) := by
  intro pins s σ H x v vl vu lo hi sl Q I rx hs pl pu h
  obtain ⟨m, st, dx, d, st', rs, r1, e, fin⟩ := h
  unfold gSl at e
  split at e
  · obtain ⟨a, vs, rfl, q1, q2⟩ := r1
    cases e
    refine sl_tupA pins s σ H _ v vl vu lo hi sl Q I rx hs pl pu ⟨a, vs, rfl, q1, fun z => ?_, fun _ p hp => fin.tup rs (cut_rel q2) hp⟩
    refine fin.here rs ⟨a, vs, rfl, q1, ?_⟩
    have w := cut_rel (lo := lo) (hi := hi) q2
    have ez : cutV vs lo hi = vs := cut_whole vs lo hi z
    rw [ez] at w
    exact w
  · obtain ⟨_, rfl⟩ := r1
    split at e
    · rename_i q
      obtain ⟨vs, g1, g2, _⟩ := lstAt_ok rs q
      cases e
      exact sl_list pins s σ H _ v vl vu lo hi sl Q I rx hs pl pu ⟨_, vs, rfl, g1, fun p hp => fin.lst rs (cut_rel g2) hp⟩
    · cases e
  · cases r1
    split at e
    · rename_i hl
      cases e
      exact sl_str pins s σ H _ v vl vu lo hi sl Q I rx hs pl pu ⟨_, rfl, hl, fin.here rs rfl⟩
    · cases e
  · cases e
end
/-- a slice's parts -/
abbrev FO := En → S → Out (Option Int)
def fNo : FO := fun _ st => .ok none st
def fPart (a : FE) : FO := fun ρ st => (a ρ st).bind fun x st1 => match x with
  | .int i => .ok (some i) st1
  | _ => .bad
def fSl (g : D → Option Int → Option Int → S → Option (D × S)) (a : FE) (lo hi : FO) : FE := fun ρ st => (a ρ st).bind fun x st1 => (lo ρ st1).bind fun l st2 => (hi ρ st2).bind fun u st3 => ofO (g x l u st3)
def rO (K : PySem.W.Frag) (mg : Str → Option Value) (W : Wc) (f : FO) : TO := fun σ H Q => ∃ m st ρ, RS K m st H ∧ RE W.gh K m st.length H ρ σ ∧
  Meet K mg m st.length H (f ρ st) (fun b st' m' H' => Q b H') (fun cls od H' => W.W cls od σ H')
abbrev JO (X : Cx) (W : Wc) (e : Option Expr) (f : FO) : Prop := PO X e (rO X.K X.mg W f)
theorem ro_bind {K : PySem.W.Frag} {mg : Str → Option Value} {W : Wc} {α : Type} {f : FO} {k : Option Int → S → En → Out α} {m : Nat → Addr} {st : S} {ρ : En} {σ : L2.St} {H : Hp} {Qa : α → S → (Nat → Addr) → Hp → Prop} {R : Option Int → Hp → Prop}
    (rs : RS K m st H) (re : RE W.gh K m st.length H ρ σ) (h : Meet K mg m st.length H ((f ρ st).bind fun d st1 => k d st1 ρ) Qa (fun cls od H' => W.W cls od σ H'))
    (hr : ∀ d st1 m1 H1, RS K m1 st1 H1 → RE W.gh K m1 st1.length H1 ρ σ → Mn K m st.length H m1 st1.length H1 → Meet K mg m1 st1.length H1 (k d st1 ρ) Qa (fun cls od H' => W.W cls od σ H') → R d H1) :
    rO K mg W f σ H R :=
  ⟨m, st, ρ, rs, re, (Meet.bind h).imp fun d st1 m1 H1 r1 mn h1 => hr d st1 m1 H1 r1 (re.mono mn) mn h1⟩
section
variable {X : Cx} {W : Wc} {e : Expr} {fa : FE} {lo hi : Option Expr} {fl fh : FO} {pos p2 : Pos}
theorem jo_no : JO X W none fNo := ⟨fun pins s σ H Q I h => po_none.run pins s σ H Q I (by
  obtain ⟨m, st, ρ, rs, re, h⟩ := h
  exact h m H rs Mn.refl)⟩
theorem jo_part (h : JE X W e fa) : JO X W (some e) (fPart fa) := ⟨fun pins s σ H Q I hw => (po_some h).run pins s σ H Q I (by
  obtain ⟨m, st, ρ, rs, re, hw⟩ := hw
  refine re_bind (k := fun x st1 ρ => match x with | .int i => .ok (some i) st1 | _ => .bad) rs re hw fun x st1 m1 H1 v1 r1 re1 mn1 rv1 h1 => ?_
  cases x with
  | int i => exact ⟨i, rv1, h1 m1 H1 r1 Mn.refl⟩
  | _ => exact h1.elim)⟩
theorem je_sl {g : D → Option Int → Option Int → S → Option (D × S)} (hr : SlR X (rDS X.K g)) (he : JE X W e fa) (hl : JO X W lo fl) (hh : JO X W hi fh) : JE X W (.Subscript e (.Slice lo hi none p2) pos) (fSl g fa fl fh) := by
  refine pe_imp (pe_slice hr he hl hh) fun σ H Q h => ?_
  obtain ⟨m, st, ρ, rs, re, h⟩ := h
  refine re_bind (k := fun x st1 ρ => (fl ρ st1).bind fun l st2 => (fh ρ st2).bind fun u st3 => ofO (g x l u st3)) rs re h fun x st1 m1 H1 v1 r1 re1 mn1 rv1 h1 => ?_
  refine ro_bind (k := fun l st2 ρ => (fh ρ st2).bind fun u st3 => ofO (g x l u st3)) r1 re1 h1 fun l st2 m2 H2 r2 re2 mn2 h2 => ?_
  refine ro_bind (k := fun u st3 ρ => ofO (g x l u st3)) r2 re2 h2 fun u st3 m3 H3 r3 re3 mn3 h3 => ?_
  obtain ⟨d, st', e, fin⟩ := meet_fin h3
  exact ⟨m3, st3, x, d, st', r3, mn3 _ _ (mn2 _ _ rv1), e, fin⟩
end
/-! ### built-in functions -/
def gLen (ds : List D) (st : S) : Option (D × S) := match ds with
  | [.tup xs] => some (.int xs.length, st)
  | [.str x] => if x.length ≤ sizeLine then some (.int x.length, st) else none
  | [.loc n] => match lstAt st n with
    | some xs => some (.int xs.length, st)
    | none => none
  | _ => none
def gAbs (ds : List D) (st : S) : Option (D × S) := match ds with
  | [.int i] => some (.int (if i < 0 then -i else i), st)
  | _ => none
def gInt (ds : List D) (st : S) : Option (D × S) := match ds with
  | [.int i] => some (.int i, st)
  | [.bl b] => some (.int (if b then 1 else 0), st)
  | _ => none
def gBool (ds : List D) (st : S) : Option (D × S) := match ds with
  | [.int i] => some (.bl (i != 0), st)
  | [.bl b] => some (.bl b, st)
  | _ => none
def gStr (ds : List D) (st : S) : Option (D × S) := match ds with
  | [.int i] => if i.natAbs.log2 < 1920 then some (.str (toString i), st) else none
  | [.str x] => some (.str x, st)
  | _ => none
def gMax (ds : List D) (st : S) : Option (D × S) := match ds with
  | [.int i, .int j] => some (.int (if j > i then j else i), st)
  | _ => none
def gMin (ds : List D) (st : S) : Option (D × S) := match ds with
  | [.int i, .int j] => some (.int (if j < i then j else i), st)
  | _ => none
def gGcd (ds : List D) (st : S) : Option (D × S) := match ds with
  | [.int i, .int j] => some (.int ((Nat.gcd i.natAbs j.natAbs : Nat) : Int), st)
  | _ => none
def intsD : List D → Option (List Int)
  | [] => some []
  | .int i :: r => (intsD r).map fun is => i :: is
  | _ :: _ => none
def gSum (ds : List D) (st : S) : Option (D × S) := match ds with
  | [.loc n] => match lstAt st n with
    | some xs => (intsD xs).map fun is => (.int is.sum, st)
    | none => none
  | _ => none
def gList (ds : List D) (st : S) : Option (D × S) := match ds with
  | [.tup xs] => some (.loc st.length, st ++ [.lst xs])
  | [.loc n] => match lstAt st n with
    | some xs => some (.loc st.length, st ++ [.lst xs])
    | none => none
  | _ => none
def gTuple (ds : List D) (st : S) : Option (D × S) := match ds with
  | [.tup xs] => some (.tup xs, st)
  | [.loc n] => match lstAt st n with
    | some xs => some (.tup xs, st)
    | none => none
  | _ => none
theorem ints_rel {K : PySem.W.Frag} {m : Nat → Addr} {n : Nat} {H : Hp} : ∀ {ds : List D} {vs : List V} {is : List Int}, RVs K m n H ds vs → intsD ds = some is → vs = is.map V.int
  | [], vs, is, h, e => by cases h; cases e; rfl
  | .int i :: ds, vs, is, h, e => by
    obtain ⟨v, r, rfl, h1, h2⟩ := h
    unfold intsD at e
    obtain ⟨js, e1, rfl⟩ := Option.map_eq_some_iff.mp e
    cases h1
    rw [ints_rel h2 e1]
    rfl
  | .non :: _, _, _, _, e => by cases e
  | .bl _ :: _, _, _, _, e => by cases e
  | .str _ :: _, _, _, _, e => by cases e
  | .tup _ :: _, _, _, _, e => by cases e
  | .loc _ :: _, _, _, _, e => by cases e
section
variable {X : Cx}
/-- one argument, two arguments -/
theorem rvs1 {K : PySem.W.Frag} {m : Nat → Addr} {n : Nat} {H : Hp} {d : D} {vs : List V} (h : RVs K m n H [d] vs) : ∃ v, vs = [v] ∧ RV K m n H d v := by
  obtain ⟨v, r, rfl, h1, h2⟩ := h
  cases h2
  exact ⟨v, rfl, h1⟩
theorem rvs2 {K : PySem.W.Frag} {m : Nat → Addr} {n : Nat} {H : Hp} {d e : D} {vs : List V} (h : RVs K m n H [d, e] vs) : ∃ v w, vs = [v, w] ∧ RV K m n H d v ∧ RV K m n H e w := by
  obtain ⟨v, r, rfl, h1, h2⟩ := h
  obtain ⟨w, rfl, h3⟩ := rvs1 h2
  exact ⟨v, w, rfl, h1, h3⟩
theorem cad_len : CallR X (.builtin "len") (rDL X.K gLen) := by
  intro pins s σ H xs us Q I r h
  obtain ⟨m, st, ds, d, st', rs, r1, e, fin⟩ := h
  unfold gLen at e
  split at e
  · obtain ⟨v, rfl, a, vs, rfl, q1, q2⟩ := rvs1 r1
    cases e
    exact call_len pins s σ H _ us Q I r ⟨_, _, rfl, .inr ⟨vs, q1, rfl⟩, by rw [← RVs.len q2]; exact fin.here rs rfl⟩
  · obtain ⟨v, rfl, rfl⟩ := rvs1 r1
    split at e
    · rename_i hl
      cases e
      exact call_len pins s σ H _ us Q I r ⟨_, _, rfl, ⟨hl, rfl⟩, fin.here rs rfl⟩
    · cases e
  · obtain ⟨v, rfl, _, rfl⟩ := rvs1 r1
    split at e
    · rename_i q
      obtain ⟨vs, g1, g2, _⟩ := lstAt_ok rs q
      cases e
      exact call_len pins s σ H _ us Q I r ⟨_, _, rfl, .inl ⟨vs, g1, rfl⟩, by rw [← RVs.len g2]; exact fin.here rs rfl⟩
    · cases e
  · cases e
theorem cad_abs : CallR X (.builtin "abs") (rDL X.K gAbs) := by
  intro pins s σ H xs us Q I r h
  obtain ⟨m, st, ds, d, st', rs, r1, e, fin⟩ := h
  unfold gAbs at e
  split at e
  · obtain ⟨v, rfl, rfl⟩ := rvs1 r1
    cases e
    exact call_abs pins s σ H _ us Q I r ⟨_, rfl, fin.here rs rfl⟩
  · cases e
theorem cad_int : CallR X (.type "int") (rDL X.K gInt) := by
  intro pins s σ H xs us Q I r h
  obtain ⟨m, st, ds, d, st', rs, r1, e, fin⟩ := h
  unfold gInt at e
  split at e
  · obtain ⟨v, rfl, rfl⟩ := rvs1 r1
    cases e
    exact call_int1 pins s σ H _ us Q I r (.inl ⟨_, rfl, fin.here rs rfl⟩)
  · obtain ⟨v, rfl, rfl⟩ := rvs1 r1
    cases e
    exact call_int1 pins s σ H _ us Q I r (.inr ⟨_, rfl, fin.here rs rfl⟩)
  · cases e
theorem cad_bool : CallR X (.type "bool") (rDL X.K gBool) := by
  intro pins s σ H xs us Q I r h
  obtain ⟨m, st, ds, d, st', rs, r1, e, fin⟩ := h
  unfold gBool at e
  split at e
  · obtain ⟨v, rfl, rfl⟩ := rvs1 r1
    cases e
    exact call_bool1 pins s σ H _ us Q I r (.inl ⟨_, rfl, fin.here rs rfl⟩)
  · obtain ⟨v, rfl, rfl⟩ := rvs1 r1
    cases e
    exact call_bool1 pins s σ H _ us Q I r (.inr ⟨_, rfl, fin.here rs rfl⟩)
  · cases e
theorem cad_str : CallR X (.type "str") (rDL X.K gStr) := by
  intro pins s σ H xs us Q I r h
  obtain ⟨m, st, ds, d, st', rs, r1, e, fin⟩ := h
  unfold gStr at e
  split at e
  · obtain ⟨v, rfl, rfl⟩ := rvs1 r1
    split at e
    · rename_i hl
      cases e
      exact call_str_int pins s σ H _ us Q I r ⟨_, rfl, hl, fin.here rs rfl⟩
    · cases e
  · obtain ⟨v, rfl, rfl⟩ := rvs1 r1
    cases e
    exact SkE.call_str_str pins s σ H _ us Q I r ⟨_, rfl, fin.here rs rfl⟩
  · cases e
theorem cad_max (hc : X.calm = true) : CallR X (.builtin "max") (rDL X.K gMax) := by
  intro pins s σ H xs us Q I r h
  obtain ⟨m, st, ds, d, st', rs, r1, e, fin⟩ := h
  unfold gMax at e
  split at e
  · obtain ⟨v, w, rfl, rfl, rfl⟩ := rvs2 r1
    cases e
    exact call_max2 hc pins s σ H _ us Q I r ⟨_, _, rfl, fin.here rs rfl⟩
  · cases e
theorem cad_min (hc : X.calm = true) : CallR X (.builtin "min") (rDL X.K gMin) := by
  intro pins s σ H xs us Q I r h
  obtain ⟨m, st, ds, d, st', rs, r1, e, fin⟩ := h
  unfold gMin at e
  split at e
  · obtain ⟨v, w, rfl, rfl, rfl⟩ := rvs2 r1
    cases e
    exact call_min2 hc pins s σ H _ us Q I r ⟨_, _, rfl, fin.here rs rfl⟩
  · cases e
theorem cad_gcd : CallR X (.builtin "math.gcd") (rDL X.K gGcd) := by
  intro pins s σ H xs us Q I r h
  obtain ⟨m, st, ds, d, st', rs, r1, e, fin⟩ := h
  unfold gGcd at e
  split at e
  · obtain ⟨v, w, rfl, rfl, rfl⟩ := rvs2 r1
    cases e
    exact cr_gcd pins s σ H _ us Q I r ⟨_, _, rfl, fin.here rs rfl⟩
  · cases e
theorem cad_sum (hc : X.calm = true) : CallR X (.builtin "sum") (rDL X.K gSum) := by
  intro pins s σ H xs us Q I r h
  obtain ⟨m, st, ds, d, st', rs, r1, e, fin⟩ := h
  unfold gSum at e
  split at e
  · obtain ⟨v, rfl, _, rfl⟩ := rvs1 r1
    split at e
    · rename_i q
      obtain ⟨vs, g1, g2, _⟩ := lstAt_ok rs q
      obtain ⟨is, e1, e2⟩ := Option.map_eq_some_iff.mp e
      cases e2
      rw [ints_rel g2 e1] at g1
      exact cr_sum hc pins s σ H _ us Q I r ⟨_, is, rfl, g1, fin.here rs rfl⟩
    · cases e
  · cases e
theorem cad_list : CallR X (.type "list") (rDL X.K gList) := by
  intro pins s σ H xs us Q I r h
  obtain ⟨m, st, ds, d, st', rs, r1, e, fin⟩ := h
  unfold gList at e
  split at e
  · obtain ⟨v, rfl, a, vs, rfl, q1, q2⟩ := rvs1 r1
    cases e
    exact call_list_of pins s σ H _ us Q I r ⟨_, vs, rfl, .inr q1, fun p hp => fin.lst rs q2 hp⟩
  · obtain ⟨v, rfl, _, rfl⟩ := rvs1 r1
    split at e
    · rename_i q
      obtain ⟨vs, g1, g2, _⟩ := lstAt_ok rs q
      cases e
      exact call_list_of pins s σ H _ us Q I r ⟨_, vs, rfl, .inl g1, fun p hp => fin.lst rs g2 hp⟩
    · cases e
  · cases e
theorem cad_tuple : CallR X (.type "tuple") (rDL X.K gTuple) := by
  intro pins s σ H xs us Q I r h
  obtain ⟨m, st, ds, d, st', rs, r1, e, fin⟩ := h
  unfold gTuple at e
  split at e
  · obtain ⟨v, rfl, a, vs, rfl, q1, q2⟩ := rvs1 r1
    cases e
    exact call_tuple_of pins s σ H _ us Q I r ⟨_, vs, rfl, .inr ⟨q1, fin.here rs ⟨a, vs, rfl, q1, q2⟩⟩⟩
  · obtain ⟨v, rfl, _, rfl⟩ := rvs1 r1
    split at e
    · rename_i q
      obtain ⟨vs, g1, g2, _⟩ := lstAt_ok rs q
      cases e
      exact call_tuple_of pins s σ H _ us Q I r ⟨_, vs, rfl, .inl ⟨g1, fun p hp => fin.tup rs g2 hp⟩⟩
    · cases e
  · cases e
end
/-! ### isinstance with a built-in class -/
def tyD : D → String
  | .non => "NoneType"
  | .bl _ => "bool"
  | .int _ => "int"
  | .str _ => "str"
  | .tup _ => "tuple"
  | .loc _ => "list"
def isiT (T : String) (t : String) : Bool := t == T || (t == "bool" && T == "int")
def gIsi (T : String) (x : D) (st : S) : Option (D × S) := match x with
  | .loc n => match lstAt st n with
    | some _ => some (.bl (isiT T "list"), st)
    | none => none
  | x => some (.bl (isiT T (tyD x)), st)
def isiOk (T : String) : Bool := ["NoneType", "bool", "int", "str", "tuple", "list"].all fun t => decide (kitB t T = some (isiT T t))
section
variable {X : Cx} {W : Wc} {e : Expr} {fa : FE} {p p2 pos : Pos}
theorem tyx_of {K : PySem.W.Frag} {m : Nat → Addr} {st : S} {H : Hp} {d : D} {v : V} {T : String} {r : D × S} (rs : RS K m st H) (h : RV K m st.length H d v) (e : gIsi T d st = some r) : TyX K H v (.type (tyD d)) ∧ r = (.bl (isiT T (tyD d)), st) := by
  cases d with
  | non => cases h; exact ⟨.base .non, (Option.some.inj e).symm⟩
  | bl b => cases h; exact ⟨.base (.bl b), (Option.some.inj e).symm⟩
  | int i => cases h; exact ⟨.base (.int i), (Option.some.inj e).symm⟩
  | str x => cases h; exact ⟨.base (.str x), (Option.some.inj e).symm⟩
  | tup ds =>
    obtain ⟨a, vs, rfl, q1, q2⟩ := h
    refine ⟨?_, (Option.some.inj e).symm⟩
    rcases q1 with (q | ⟨o, q⟩) | ⟨o, its, n, q, qc, _⟩
    · exact .base (.tup q)
    · exact .fTuple q
    · exact .kTuple q qc
  | loc k =>
    obtain ⟨_, rfl⟩ := h
    replace e : (match lstAt st k with | some _ => some (D.bl (isiT T "list"), st) | none => none) = some r := e
    cases q : lstAt st k with
    | none => rw [q] at e; cases e
    | some ds =>
      rw [q] at e
      refine ⟨?_, (Option.some.inj e).symm⟩
      obtain ⟨vs, _, _, g | g⟩ := lstAt_ok rs q
      · obtain ⟨xs, g⟩ := g
        exact .base (.lst g)
      · obtain ⟨xs, ⟨o, g1⟩ | ⟨o, its, n, g1, gc, _⟩⟩ := g
        · exact .base (.frz g1)
        · exact .kList g1 gc
/-- isinstance(e, T) -/
theorem je_isi {T : Str} {t : String} (hg : Gl X "isinstance") (hm : X.mg "isinstance" = none) (hgT : Gl X T) (hmT : X.mg T = none) (hvT : bootBuiltins T = some (.type t)) (hk : isiOk t = true) (ha : JE X W e fa)
    (hnT : T ≠ "__name__" := by decide) (hdT : (T == ("__debug__" : Str)) = false := by decide)
    (he : starEach (e :: [.Name T p2]) X.env = (false, eval e X.env) :: starEach [.Name T p2] X.env := by rfl) (hpl : (backTo pos (starEach [.Name T p2] X.env)).any (·.1) = false := by rfl) :
    JE X W (.Call (.Name "isinstance" p) [e, .Name T p2] [] pos) (fUn (gIsi t) fa) := by
  have hT : PE X (.Name T p2) (tC (.ty t)) := pe_bltn hgT hmT hvT rfl hnT hdT
  refine pe_imp (pe_callB call_isi hg hm PyProof.Rows.boot_isinstance (pa_cons ha (pa_cons hT pa_nil) he) (by decide) (by decide) he hpl) fun σ H Q h => ?_
  obtain ⟨m, st, ρ, rs, re, h⟩ := h
  refine re_bind (k := fun x st1 ρ => ofO (gIsi t x st1)) rs re h fun x st1 m1 H1 v1 r1 re1 mn1 rv1 h1 => ?_
  obtain ⟨d, st', e, fin⟩ := meet_fin h1
  obtain ⟨ty, ed⟩ := tyx_of r1 rv1 e
  cases ed
  have kk : kitB (tyD x) t = some (isiT t (tyD x)) := by
    have z := List.all_eq_true.mp hk (tyD x) (by cases x <;> simp [tyD])
    exact of_decide_eq_true z
  exact ⟨v1, .ty t, .type (tyD x), .type t, _, rfl, .ty t, ty, kit_ty kk, fin.here r1 rfl⟩
end
/-! ### methods of lists -/
def gAppend (x : D) (ds : List D) (st : S) : Option (D × S) := match x, ds with
  | .loc n, [d] => match st[n]? with
    | some (.lst xs) => if xs.length < sizeLine then some (.non, st.set n (.lst (xs ++ [d]))) else none
    | _ => none
  | _, _ => none
def gInsert (x : D) (ds : List D) (st : S) : Option (D × S) := match x, ds with
  | .loc n, [.int i, d] => match st[n]? with
    | some (.lst xs) => if xs.length < sizeLine ∧ 0 ≤ i ∧ i < 2 ^ 63 then some (.non, st.set n (.lst (xs.take i.toNat ++ [d] ++ xs.drop i.toNat))) else none
    | _ => none
  | _, _ => none
def gPop (x : D) (ds : List D) (st : S) : Option (D × S) := match x, ds with
  | .loc n, [] => match st[n]? with
    | some (.lst xs) => (xs[xs.length - 1]?).map fun d => (d, st.set n (.lst xs.dropLast))
    | _ => none
  | .loc n, [.int i] => match st[n]? with
    | some (.lst xs) => if -(2 ^ 63) ≤ i ∧ i < 2 ^ 63 then (match seqIndex? i xs.length with
      | some k => (xs[k]?).map fun d => (d, st.set n (.lst (xs.eraseIdx k)))
      | none => none) else none
    | _ => none
  | _, _ => none
def gExtend (x : D) (ds : List D) (st : S) : Option (D × S) := match x, ds with
  | .loc n, [.loc k] => match st[n]?, st[k]? with
    | some (.lst xs), some (.lst ys) => if xs.length + ys.length ≤ sizeLine then some (.non, st.set n (.lst (xs ++ ys))) else none
    | _, _ => none
  | _, _ => none
theorem RVs.dropLast {K : PySem.W.Frag} {m : Nat → Addr} {n : Nat} {H : Hp} {ds : List D} {vs : List V} (h : RVs K m n H ds vs) : RVs K m n H ds.dropLast vs.dropLast := by
  rw [List.dropLast_eq_take, List.dropLast_eq_take, RVs.len h]
  exact RVs.take _ h
theorem RVs.erase {K : PySem.W.Frag} {m : Nat → Addr} {n : Nat} {H : Hp} {ds : List D} {vs : List V} (h : RVs K m n H ds vs) (k : Nat) : RVs K m n H (ds.eraseIdx k) (vs.eraseIdx k) := by
  rw [List.eraseIdx_eq_take_drop_succ, List.eraseIdx_eq_take_drop_succ]
  exact RVs.app (RVs.take _ h) (RVs.drop _ h)
section
variable {X : Cx}
theorem mtd_append : MtR X "list.append" (rDM X.K gAppend) := by
  intro pins s σ H x xs v us Q I rx rv h
  obtain ⟨m, st, dx, ds, d, st', rs, r1, r2, e, fin⟩ := h
  unfold gAppend at e
  split at e
  · obtain ⟨_, rfl⟩ := r1
    obtain ⟨y, rfl, r3⟩ := rvs1 r2
    split at e
    · rename_i q
      split at e
      · rename_i hl
        obtain ⟨vs, g1, g2⟩ := rs.at_ _ _ q
        cases e
        exact mt_append pins s σ H _ _ v us Q I rx rv ⟨_, vs, y, rfl, rfl, g1, by rw [← RVs.len g2]; exact hl, fin.wr rs q (RVs.app g2 (RVs.one r3)) rfl⟩
      · cases e
    · cases e
  · cases e
theorem mtd_insert : MtR X "list.insert" (rDM X.K gInsert) := by
  intro pins s σ H x xs v us Q I rx rv h
  obtain ⟨m, st, dx, ds, d, st', rs, r1, r2, e, fin⟩ := h
  unfold gInsert at e
  split at e
  · obtain ⟨_, rfl⟩ := r1
    obtain ⟨z, y, rfl, r4, r3⟩ := rvs2 r2
    cases r4
    split at e
    · rename_i q
      split at e
      · rename_i hl
        obtain ⟨vs, g1, g2⟩ := rs.at_ _ _ q
        cases e
        exact mt_insert pins s σ H _ _ v us Q I rx rv ⟨_, vs, _, y, rfl, rfl, g1, by rw [← RVs.len g2]; exact hl.1, hl.2.1, hl.2.2, fin.wr rs q (RVs.app (RVs.app (RVs.take _ g2) (RVs.one r3)) (RVs.drop _ g2)) rfl⟩
      · cases e
    · cases e
  · cases e
theorem mtd_pop : MtR X "list.pop" (rDM X.K gPop) := by
  intro pins s σ H x xs v us Q I rx rv h
  obtain ⟨m, st, dx, ds, d, st', rs, r1, r2, e, fin⟩ := h
  unfold gPop at e
  split at e
  · obtain ⟨_, rfl⟩ := r1
    cases r2
    split at e
    · rename_i q
      obtain ⟨vs, g1, g2⟩ := rs.at_ _ _ q
      obtain ⟨d2, e1, e2⟩ := Option.map_eq_some_iff.mp e
      cases e2
      obtain ⟨y, h1, h2⟩ := RVs.get g2 e1
      refine mt_pop pins s σ H _ _ v us Q I rx rv ⟨_, vs, y, rfl, rfl, g1, by rw [← RVs.len g2]; exact h1, fin.wr rs q (RVs.dropLast g2) h2⟩
    · cases e
  · obtain ⟨_, rfl⟩ := r1
    obtain ⟨z, rfl, r4⟩ := rvs1 r2
    cases r4
    split at e
    · rename_i q
      split at e
      · rename_i hl
        split at e
        · rename_i k hk
          obtain ⟨vs, g1, g2⟩ := rs.at_ _ _ q
          obtain ⟨d2, e1, e2⟩ := Option.map_eq_some_iff.mp e
          cases e2
          obtain ⟨y, h1, h2⟩ := RVs.get g2 e1
          exact mt_popAt pins s σ H _ _ v us Q I rx rv ⟨_, vs, _, k, y, rfl, rfl, g1, hl.1, hl.2, by rw [← RVs.len g2]; exact hk, h1, fin.wr rs q (RVs.erase g2 k) h2⟩
        · cases e
      · cases e
    · cases e
  · cases e
theorem mtd_extend : MtR X "list.extend" (rDM X.K gExtend) := by
  intro pins s σ H x xs v us Q I rx rv h
  obtain ⟨m, st, dx, ds, d, st', rs, r1, r2, e, fin⟩ := h
  unfold gExtend at e
  split at e
  · obtain ⟨_, rfl⟩ := r1
    obtain ⟨y, rfl, _, rfl⟩ := rvs1 r2
    split at e
    · rename_i q q2
      split at e
      · rename_i hl
        obtain ⟨vs, g1, g2⟩ := rs.at_ _ _ q
        obtain ⟨ws, g3, g4⟩ := rs.at_ _ _ q2
        cases e
        exact mt_extend pins s σ H _ _ v us Q I rx rv ⟨_, _, vs, ws, rfl, rfl, g1, g3, by rw [← RVs.len g2, ← RVs.len g4]; exact hl, fin.wr rs q (RVs.app g2 g4) rfl⟩
      · cases e
    · cases e
  · cases e
end
section
variable {X : Cx} {W : Wc} {o e : Expr} {es : List Expr} {fo : FE} {fs : FA} {name : Str} {id : String} {apos cpos : Pos}
/-- o.m(e, ..), o a list -/
def fLM (g : D → List D → S → Option (D × S)) (o : FE) (a : FA) : FE := fun ρ st => (o ρ st).bind fun x st1 => match x with
  | .loc n => match lstAt st1 n with
    | some _ => (a ρ st1).bind fun ds st2 => ofO (g (.loc n) ds st2)
    | none => .bad
  | _ => .bad
theorem lm_imp {g : D → List D → S → Option (D × S)} {t : TA} (ht : ∀ σ H Q, rA X.K X.mg W fs σ H Q → t σ H Q) {σ : L2.St} {H : Hp} {Q : VK} (h : rE X.K X.mg W (fLM g fo fs) σ H Q) : tBM X.K "list" (rDM X.K g) (rE X.K X.mg W fo) t σ H Q := by
  obtain ⟨m, st, ρ, rs, re, h⟩ := h
  refine re_bind (α := D) (k := fun x st1 ρ => match x with | .loc n => (match lstAt st1 n with | some _ => (fs ρ st1).bind fun ds st2 => ofO (g (.loc n) ds st2) | none => .bad) | _ => .bad) rs re h fun x st1 m1 H1 v1 r1 re1 mn1 rv1 h1 => ?_
  cases x with
  | loc n =>
    obtain ⟨hn, rfl⟩ := rv1
    cases q : lstAt st1 n with
    | none => simp only [q] at h1; exact h1.elim
    | some xs =>
      simp only [q] at h1
      obtain ⟨vs, g1, _⟩ := lstAt_ok r1 q
      refine ⟨Or.inl ⟨rfl, vs, g1⟩, ht _ _ _ ?_⟩
      refine ra_bind (k := fun ds st2 ρ => ofO (g (.loc n) ds st2)) r1 re1 h1 fun ds st2 m2 H2 v2 r2 re2 mn2 rv2 h2 => ?_
      obtain ⟨d, st', e, fin⟩ := meet_fin h2
      exact ⟨m2, st2, .loc n, ds, d, st', r2, mn2 _ _ ⟨hn, rfl⟩, rv2, e, fin⟩
  | _ => exact h1.elim
theorem je_lm {g : D → List D → S → Option (D × S)} (slot : Slot "list" name id) (hty : typeOf (.builtin id) = pure (.type "method_descriptor")) (hm : MtR X id (rDM X.K g)) (ho : JE X W o fo) (ha : JA X W (e :: es) fs)
    (hbase : attributeBase o name X.env (eval o X.env) = eval o X.env := by rfl)
    (hfew : ((backTo cpos (starEach (e :: es) X.env)).all (fun x => !x.1) && (backToKw cpos (keywordEach [] X.env)).all (fun x => x.1.isSome)
      && decide ((e :: es).length + ([] : List Keyword).length + (if ([] : List Keyword).isEmpty then 0 else 1) < 30)) = true := by rfl)
    (hline : (apos.endLine == cpos.line) = true := by rfl) (hs : starEach (e :: es) X.env = (false, eval e X.env) :: starEach es X.env := by rfl) (hplain : (backTo cpos (starEach es X.env)).any (·.1) = false := by rfl) :
    JE X W (.Call (.Attribute o name apos) (e :: es) [] cpos) (fLM g fo fs) :=
  pe_imp (pe_bm PySem.F.plainAttrs_list slot hty hm ho ha hbase hfew hline hs hplain) fun σ H Q h => lm_imp (fun _ _ _ q => q) h
theorem je_lm0 {g : D → List D → S → Option (D × S)} (slot : Slot "list" name id) (hty : typeOf (.builtin id) = pure (.type "method_descriptor")) (hm : MtR X id (rDM X.K g)) (ho : JE X W o fo)
    (hbase : attributeBase o name X.env (eval o X.env) = eval o X.env := by rfl) (hline : (apos.endLine == cpos.line) = true := by rfl) :
    JE X W (.Call (.Attribute o name apos) [] [] cpos) (fLM g fo fNil) :=
  pe_imp (pe_bm0 PySem.F.plainAttrs_list slot hty hm ho hbase hline) fun σ H Q h => lm_imp (t := fun σ H Q => Q [] H) (fun σ H Q q => by
    obtain ⟨m, st, ρ, rs, re, q⟩ := q
    exact q m H rs Mn.refl [] rfl) h
end
end MP

set_option Elab.async false
set_option linter.all false
set_option maxRecDepth 100000
set_option maxHeartbeats 4000000
namespace MP
open PySem L2

/-! ### statements -/
def Out.so {α : Type} (o : Out α) (ρ : En) (k : α → S → SO) : SO := match o with
  | .ok a st => k a st
  | .exc e st => .ex e ρ st
  | .bad => .bad
@[simp] theorem Out.so_ok {α : Type} (a : α) (st : S) (ρ : En) (k : α → S → SO) : (Out.ok a st).so ρ k = k a st := rfl
@[simp] theorem Out.so_exc {α : Type} (e : Ex) (st : S) (ρ : En) (k : α → S → SO) : (Out.exc e st : Out α).so ρ k = .ex e ρ st := rfl
@[simp] theorem Out.so_bad {α : Type} (ρ : En) (k : α → S → SO) : (Out.bad : Out α).so ρ k = .bad := rfl
section
variable {K : PySem.W.Frag} {mg : Str → Option Value} {W : Wc}
theorem MeetS.later {m m1 : Nat → Addr} {n n1 : Nat} {H H1 : Hp} {o : SO} {E : Ends} (h : MeetS K mg W m n H o E) (mn : Mn K m n H m1 n1 H1) : MeetS K mg W m1 n1 H1 o E := by
  cases o with
  | nx ρ st => exact fun m' H' σ r mn' re => h m' H' σ r (mn.trans mn') re
  | rt d st => exact fun m' H' σ r mn' re => h m' H' σ r (mn.trans mn') re
  | bk ρ st => exact fun m' H' σ r mn' re => h m' H' σ r (mn.trans mn') re
  | ct ρ st => exact fun m' H' σ r mn' re => h m' H' σ r (mn.trans mn') re
  | ex e ρ st => exact fun m' H' σ cls od r mn' re rx => h m' H' σ cls od r (mn.trans mn') re rx
  | bad => exact h
theorem Meet.later {α : Type} {m m1 : Nat → Addr} {n n1 : Nat} {H H1 : Hp} {o : Out α} {Q : α → S → (Nat → Addr) → Hp → Prop} {E : XK} (h : Meet K mg m n H o Q E) (mn : Mn K m n H m1 n1 H1) : Meet K mg m1 n1 H1 o Q E := by
  cases o with
  | ok a st => exact fun m' H' r mn' => h m' H' r (mn.trans mn')
  | exc e st => exact fun m' H' cls od r mn' rx => h m' H' cls od r (mn.trans mn') rx
  | bad => exact h
theorem se_bind {f : FE} {k : D → S → SO} {m : Nat → Addr} {st : S} {ρ : En} {σ : L2.St} {H : Hp} {E : Ends} {R : V → Hp → Prop}
    (rs : RS K m st H) (re : RE W.gh K m st.length H ρ σ) (h : MeetS K mg W m st.length H ((f ρ st).so ρ k) E)
    (hr : ∀ d st1 m1 H1 v, RS K m1 st1 H1 → RE W.gh K m1 st1.length H1 ρ σ → Mn K m st.length H m1 st1.length H1 → RV K m1 st1.length H1 d v → MeetS K mg W m1 st1.length H1 (k d st1) E → R v H1) :
    rE K mg W f σ H R := by
  refine ⟨m, st, ρ, rs, re, ?_⟩
  cases e : f ρ st with
  | ok d st1 =>
    rw [e] at h
    exact fun m1 H1 r1 mn v rv => hr d st1 m1 H1 v r1 (re.mono mn) mn rv (MeetS.later h mn)
  | exc x st1 =>
    rw [e] at h
    exact fun m1 H1 cls od r1 mn rx => h m1 H1 σ cls od r1 mn (re.mono mn) rx
  | bad => rw [e] at h; exact h
theorem st_bind {f : FT} {k : Bool → S → SO} {m : Nat → Addr} {st : S} {ρ : En} {σ : L2.St} {H : Hp} {E : Ends} {R : Bool → Hp → Prop}
    (rs : RS K m st H) (re : RE W.gh K m st.length H ρ σ) (h : MeetS K mg W m st.length H ((f ρ st).so ρ k) E)
    (hr : ∀ d st1 m1 H1, RS K m1 st1 H1 → RE W.gh K m1 st1.length H1 ρ σ → Mn K m st.length H m1 st1.length H1 → MeetS K mg W m1 st1.length H1 (k d st1) E → R d H1) :
    rT K mg W f σ H R := by
  refine ⟨m, st, ρ, rs, re, ?_⟩
  cases e : f ρ st with
  | ok d st1 =>
    rw [e] at h
    exact fun m1 H1 r1 mn => hr d st1 m1 H1 r1 (re.mono mn) mn (MeetS.later h mn)
  | exc x st1 =>
    rw [e] at h
    exact fun m1 H1 cls od r1 mn rx => h m1 H1 σ cls od r1 mn (re.mono mn) rx
  | bad => rw [e] at h; exact h
theorem sa_bind {f : FA} {k : List D → S → SO} {m : Nat → Addr} {st : S} {ρ : En} {σ : L2.St} {H : Hp} {E : Ends} {R : List V → Hp → Prop}
    (rs : RS K m st H) (re : RE W.gh K m st.length H ρ σ) (h : MeetS K mg W m st.length H ((f ρ st).so ρ k) E)
    (hr : ∀ d st1 m1 H1 v, RS K m1 st1 H1 → RE W.gh K m1 st1.length H1 ρ σ → Mn K m st.length H m1 st1.length H1 → RVs K m1 st1.length H1 d v → MeetS K mg W m1 st1.length H1 (k d st1) E → R v H1) :
    rA K mg W f σ H R := by
  refine ⟨m, st, ρ, rs, re, ?_⟩
  cases e : f ρ st with
  | ok d st1 =>
    rw [e] at h
    exact fun m1 H1 r1 mn v rv => hr d st1 m1 H1 v r1 (re.mono mn) mn rv (MeetS.later h mn)
  | exc x st1 =>
    rw [e] at h
    exact fun m1 H1 cls od r1 mn rx => h m1 H1 σ cls od r1 mn (re.mono mn) rx
  | bad => rw [e] at h; exact h
end
def sSkip : FS := fun ρ st => .nx ρ st
def sSeq (a b : FS) : FS := fun ρ st => match a ρ st with
  | .nx ρ1 st1 => b ρ1 st1
  | o => o
def sSet (i : Nat) (e : FE) : FS := fun ρ st => (e ρ st).so ρ fun d st1 => .nx (ρ.set i (some d)) st1
def sExpr (e : FE) : FS := fun ρ st => (e ρ st).so ρ fun _ st1 => .nx ρ st1
def sRet (e : FE) : FS := fun ρ st => (e ρ st).so ρ fun d st1 => .rt d st1
def sRetN : FS := fun _ st => .rt .non st
def sIf (t : FT) (a b : FS) : FS := fun ρ st => (t ρ st).so ρ fun c st1 => if c = true then a ρ st1 else b ρ st1
def sBreak : FS := fun ρ st => .bk ρ st
def sCont : FS := fun ρ st => .ct ρ st
/-- a target -/
abbrev FG := D → S → En → Option En
def tgN (i : Nat) : FG := fun d _ ρ => some (ρ.set i (some d))
def tgAll : List FG → List D → S → En → Option En
  | [], [], _, ρ => some ρ
  | t :: ts, d :: ds, st, ρ => (t d st ρ).bind fun ρ1 => tgAll ts ds st ρ1
  | _, _, _, _ => none
def tgTup (ts : List FG) : FG := fun d st ρ => match d with
  | .tup ds => tgAll ts ds st ρ
  | _ => none
def sAsg (t : FG) (e : FE) : FS := fun ρ st => (e ρ st).so ρ fun d st1 => match t d st1 ρ with
  | some ρ1 => .nx ρ1 st1
  | none => .bad
/-- xs[i] = e -/
def gStore (o i d : D) (st : S) : Option S := match o, i with
  | .loc n, .int k => match st[n]? with
    | some (.lst ds) => (ixN ds.length k).map fun j => st.set n (.lst (ds.set j d))
    | _ => none
  | _, _ => none
def sStore (o i e : FE) : FS := fun ρ st => (e ρ st).so ρ fun d st1 => (o ρ st1).so ρ fun x st2 => (i ρ st2).so ρ fun y st3 => match gStore x y d st3 with
  | some st4 => .nx ρ st4
  | none => .bad
def sPar (i j : Nat) (a : FA) : FS := fun ρ st => (a ρ st).so ρ fun ds st1 => match ds with
  | [x, y] => .nx ((ρ.set i (some x)).set j (some y)) st1
  | _ => .bad
def sLoop (chk : S → Bool) (t : FG) (body : FS) : List D → En → S → SO
  | [], ρ, st => if chk st = true then .nx ρ st else .bad
  | d :: ds, ρ, st => if chk st = true then (match t d st ρ with
    | some ρ1 => (match body ρ1 st with
      | .nx ρ2 st2 => sLoop chk t body ds ρ2 st2
      | .ct ρ2 st2 => sLoop chk t body ds ρ2 st2
      | .bk ρ2 st2 => .nx ρ2 st2
      | .rt d st2 => .rt d st2
      | .ex e ρ2 st2 => .ex e ρ2 st2
      | .bad => .bad)
    | none => .bad) else .bad
/-- the signs of a text -/
def signs (z : Str) : List D := z.cps.toList.map fun c => .str ⟨#[c]⟩
/-- for over a list, a tuple, a text -/
def sFor (e : FE) (t : FG) (body : FS) : FS := fun ρ st => (e ρ st).so ρ fun d st1 => match d with
  | .tup ds => sLoop (fun _ => true) t body ds ρ st1
  | .loc n => match lstAt st1 n with
    | some ds => sLoop (fun s => decide (lstAt s n = some ds)) t body ds ρ st1
    | none => .bad
  | .str z => sLoop (fun _ => true) t body (signs z) ρ st1
  | _ => .bad
def rangeD (lo hi : Int) : List D := (List.range (hi - lo).toNat).map fun i => .int (lo + (i : Nat))
def Small62 (i : Int) : Prop := -(2 ^ 62) ≤ i ∧ i < 2 ^ 62
instance (i : Int) : Decidable (Small62 i) := by unfold Small62; infer_instance
def sForR1 (a : FA) (t : FG) (body : FS) : FS := fun ρ st => (a ρ st).so ρ fun ds st1 => match ds with
  | [.int j] => if Small62 j then sLoop (fun _ => true) t body (rangeD 0 j) ρ st1 else .bad
  | _ => .bad
def sForR2 (a : FA) (t : FG) (body : FS) : FS := fun ρ st => (a ρ st).so ρ fun ds st1 => match ds with
  | [.int i, .int j] => if Small62 i ∧ Small62 j then sLoop (fun _ => true) t body (rangeD i j) ρ st1 else .bad
  | _ => .bad
def sWh (t : FT) (body : FS) : Nat → FS
  | 0, _, _ => .bad
  | n + 1, ρ, st => (t ρ st).so ρ fun c st1 => if c = true then (match body ρ st1 with
      | .nx ρ2 st2 => sWh t body n ρ2 st2
      | .ct ρ2 st2 => sWh t body n ρ2 st2
      | .bk ρ2 st2 => .nx ρ2 st2
      | .rt d st2 => .rt d st2
      | .ex e ρ2 st2 => .ex e ρ2 st2
      | .bad => .bad) else .nx ρ st1
open Classical in
/-- while: as far as it takes -/
noncomputable def sWhile (t : FT) (body : FS) : FS := fun ρ st => if h : ∃ n, sWh t body n ρ st ≠ .bad then sWh t body (choose h) ρ st else .bad
theorem sWh_more {t : FT} {body : FS} : ∀ (n k : Nat) (ρ : En) (st : S), sWh t body n ρ st ≠ .bad → sWh t body (n + k) ρ st = sWh t body n ρ st
  | 0, _, _, _, h => absurd rfl h
  | n + 1, k, ρ, st, h => by
    have e : n + 1 + k = (n + k) + 1 := by omega
    rw [e]
    unfold sWh at h ⊢
    cases q : t ρ st with
    | ok c st1 =>
      rw [q] at h
      simp only [Out.so_ok] at h ⊢
      cases c with
      | false => rfl
      | true =>
        rw [if_pos rfl] at h
        rw [if_pos rfl, if_pos rfl]
        cases b : body ρ st1 with
        | nx ρ2 st2 => rw [b] at h; exact sWh_more n k ρ2 st2 h
        | ct ρ2 st2 => rw [b] at h; exact sWh_more n k ρ2 st2 h
        | bk ρ2 st2 => rfl
        | rt d st2 => rfl
        | ex e ρ2 st2 => rfl
        | bad => rfl
    | exc e st1 => rfl
    | bad => rfl
theorem sWhile_of {t : FT} {body : FS} {n : Nat} {ρ : En} {st : S} {o : SO} (h : sWh t body n ρ st = o) (ho : o ≠ .bad) : sWhile t body ρ st = o := by
  have ex : ∃ n, sWh t body n ρ st ≠ .bad := ⟨n, by rw [h]; exact ho⟩
  unfold sWhile
  rw [dif_pos ex]
  have h1 := Classical.choose_spec ex
  have a := sWh_more (Classical.choose ex) n ρ st h1
  have b := sWh_more n (Classical.choose ex) ρ st (by rw [h]; exact ho)
  rw [Nat.add_comm] at b
  rw [← a, b, h]

/-! ### the rules of statements -/
section
variable {X : Cx} {W : Wc} {st : Stmt} {rest : List Stmt} {a b c e : Expr} {f g : FS} {fa fb fc : FE} {ft : FT} {fs : FA} {pos p : Pos}
theorem jb_nil : JB X W [] sSkip := pss_imp pss_nil fun E σ H ⟨m, st, ρ, rs, re, h⟩ => h m H σ rs Mn.refl re
theorem jb_cons (h1 : JS X W st f) (h2 : JB X W rest g) : JB X W (st :: rest) (sSeq f g) := by
  refine pss_imp (pss_cons h1 h2) fun E σ H h => ?_
  obtain ⟨m, st, ρ, rs, re, h⟩ := h
  refine ⟨m, st, ρ, rs, re, ?_⟩
  unfold sSeq at h
  cases q : f ρ st with
  | nx ρ1 st1 =>
    rw [q] at h
    exact fun m' H' σ' r mn re' => ⟨m', st1, ρ1, r, re', MeetS.later h mn⟩
  | rt d st1 => rw [q] at h; exact h
  | bk ρ1 st1 => rw [q] at h; exact h
  | ct ρ1 st1 => rw [q] at h; exact h
  | ex e ρ1 st1 => rw [q] at h; exact h
  | bad => rw [q] at h; exact h
theorem jb_one (h1 : JS X W st f) : JB X W [st] f := pss_one h1
theorem js_pass : JS X W (.Pass pos) sSkip := ps_imp ps_pass fun E σ H ⟨m, st, ρ, rs, re, h⟩ => h m H σ rs Mn.refl re
theorem js_break : JS X W (.Break pos) sBreak := ps_imp ps_break fun E σ H ⟨m, st, ρ, rs, re, h⟩ => h m H σ rs Mn.refl re
theorem js_cont : JS X W (.Continue pos) sCont := ps_imp ps_continue fun E σ H ⟨m, st, ρ, rs, re, h⟩ => h m H σ rs Mn.refl re
theorem js_expr (he : JE X W e fa) (hs : swapsWith e none pos.line X.env = pure false := by rfl) : JS X W (.Expr e pos) (sExpr fa) := by
  refine ps_imp (ps_expr he hs) fun E σ H h => ?_
  obtain ⟨m, st, ρ, rs, re, h⟩ := h
  exact se_bind rs re h fun d st1 m1 H1 v r1 re1 mn rv h1 => h1 m1 H1 σ r1 Mn.refl re1
theorem js_ret (he : JE X W e fa) : JS X W (.Return (some e) pos) (sRet fa) := by
  refine ps_imp (ps_ret he) fun E σ H h => ?_
  obtain ⟨m, st, ρ, rs, re, h⟩ := h
  exact se_bind rs re h fun d st1 m1 H1 v r1 re1 mn rv h1 => h1 m1 H1 v r1 Mn.refl rv
theorem js_retN : JS X W (.Return none pos) sRetN := ps_imp ps_retN fun E σ H ⟨m, st, ρ, rs, re, h⟩ => h m H .non rs Mn.refl rfl
theorem js_if {xs ys : List Stmt} (hc : JT X W c ft) (ha : JB X W xs f) (hb : JB X W ys g) : JS X W (.If c xs ys pos) (sIf ft f g) := by
  refine ps_imp (ps_if hc ha hb) fun E σ H h => ?_
  obtain ⟨m, st, ρ, rs, re, h⟩ := h
  refine st_bind rs re h fun d st1 m1 H1 r1 re1 mn h1 => ?_
  cases d with
  | true => rw [if_pos rfl] at h1 ⊢; exact ⟨m1, st1, ρ, r1, re1, h1⟩
  | false => rw [if_neg Bool.false_ne_true] at h1 ⊢; exact ⟨m1, st1, ρ, r1, re1, h1⟩
theorem js_set {i : Nat} {x : Str} {p' : Pos} (hN : X.N.Nodup) (hi : X.N[i]? = some x) (hx : Loc X.env.scope x) (he : JE X W e fa) (hs : swapsWith e (some (.Name x p')) pos.line X.env = pure false := by rfl) (hf : X.fn x = true ∨ X.env.scope.names.lookup x = some .local := by first | exact .inl rfl | exact .inr rfl | assumption) :
    JS X W (.Assign [.Name x p'] e pos) (sSet i fa) := by
  refine ps_imp (ps_set hN hi hx he hs hf) fun E σ H h => ?_
  obtain ⟨m, st, ρ, rs, re, h⟩ := h
  exact se_bind rs re h fun d st1 m1 H1 v r1 re1 mn rv h1 => h1 m1 H1 _ r1 Mn.refl (re1.set rv)
end
/-! ### targets -/
def rG (K : PySem.W.Frag) (W : Wc) (f : FG) : TG := fun v σ H Q => ∃ m st ρ d ρ', RS K m st H ∧ RE W.gh K m st.length H ρ σ ∧ RV K m st.length H d v ∧ f d st ρ = some ρ' ∧ ∀ σ', RE W.gh K m st.length H ρ' σ' → Q σ' H
def rGs (K : PySem.W.Frag) (W : Wc) (fs : List FG) : TGs := fun vs σ H Q => ∃ m st ρ ds ρ', RS K m st H ∧ RE W.gh K m st.length H ρ σ ∧ RVs K m st.length H ds vs ∧ tgAll fs ds st ρ = some ρ' ∧ ∀ σ', RE W.gh K m st.length H ρ' σ' → Q σ' H
abbrev JG (X : Cx) (W : Wc) (e : Expr) (f : FG) : Prop := PG X e (rG X.K W f)
abbrev JGs (X : Cx) (W : Wc) (es : List Expr) (fs : List FG) : Prop := PGs X es (rGs X.K W fs)
section
variable {X : Cx} {W : Wc} {e : Expr} {es : List Expr} {f : FG} {fs : List FG} {pos p : Pos}
theorem pg_imp {t t' : TG} (h : PG X e t) (hi : ∀ v σ H Q, t' v σ H Q → t v σ H Q) : PG X e t' := ⟨fun pins s σ H v u Q I r hw => h.run pins s σ H v u Q I r (hi v σ H Q hw)⟩
theorem pgs_imp {t t' : TGs} (h : PGs X es t) (hi : ∀ v σ H Q, t' v σ H Q → t v σ H Q) : PGs X es t' := ⟨fun pins s σ H v u Q I r hw => h.run pins s σ H v u Q I r (hi v σ H Q hw)⟩
theorem jg_name {i : Nat} {x : Str} (hN : X.N.Nodup) (hi : X.N[i]? = some x) (hx : Loc X.env.scope x) (hf : X.fn x = true ∨ X.env.scope.names.lookup x = some .local := by first | exact .inl rfl | exact .inr rfl | assumption) : JG X W (.Name x pos) (tgN i) :=
  pg_imp (pg_name hN hi hx hf) fun v σ H Q ⟨m, st, ρ, d, ρ', rs, re, rv, e, h⟩ => by
    cases e
    exact h _ (re.set rv)
theorem jgs_nil : JGs X W [] [] := pgs_imp pgs_nil fun v σ H Q ⟨m, st, ρ, ds, ρ', rs, re, rv, e, h⟩ => by
  cases ds with
  | nil =>
    cases rv
    cases e
    exact ⟨rfl, h _ re⟩
  | cons _ _ => cases e
theorem jgs_cons (h1 : JG X W e f) (h2 : JGs X W es fs) (hs : (assignEach (e :: es) X.env).map (·.2) = assign e X.env :: (assignEach es X.env).map (·.2) := by rfl) : JGs X W (e :: es) (f :: fs) :=
  pgs_imp (pgs_cons h1 h2 hs) fun v σ H Q ⟨m, st, ρ, ds, ρ', rs, re, rv, e, h⟩ => by
    cases ds with
    | nil => cases e
    | cons d ds =>
      obtain ⟨x, r, rfl, r1, r2⟩ := rv
      obtain ⟨ρ1, e1, e2⟩ := Option.bind_eq_some_iff.mp (show (f d st ρ).bind (fun ρ1 => tgAll fs ds st ρ1) = some ρ' from e)
      exact ⟨x, r, rfl, m, st, ρ, d, ρ1, rs, re, r1, e1, fun σ1 re1 => ⟨m, st, ρ1, ds, ρ', rs, re1, r2, e2, h⟩⟩
theorem tgAll_len : ∀ {fs : List FG} {ds : List D} {st : S} {ρ ρ' : En}, tgAll fs ds st ρ = some ρ' → ds.length = fs.length
  | [], [], _, _, _, _ => rfl
  | [], _ :: _, _, _, _, e => by cases e
  | _ :: _, [], _, _, _, e => by cases e
  | f :: fs, d :: ds, st, ρ, ρ', e => by
    obtain ⟨ρ1, e1, e2⟩ := Option.bind_eq_some_iff.mp (show (f d st ρ).bind (fun ρ1 => tgAll fs ds st ρ1) = some ρ' from e)
    simp [tgAll_len e2]
theorem jg_tup {k : Nat} (hc : X.calm = true) (h : JGs X W es fs) (hn : (assignEach es X.env).length = fs.length := by rfl) (hst : (assignEach es X.env).findIdx? (·.1) = none := by rfl) : JG X W (.Tuple es k pos) (tgTup fs) :=
  pg_imp (pg_tup hc h hn hst) fun v σ H Q ⟨m, st, ρ, d, ρ', rs, re, rv, e, h⟩ => by
    cases d with
    | tup ds =>
      obtain ⟨a, vs, rfl, q1, q2⟩ := rv
      exact ⟨a, vs, rfl, q1, by rw [← RVs.len q2]; exact tgAll_len e, m, st, ρ, ds, ρ', rs, re, q2, e, h⟩
    | _ => cases e
end
section
variable {X : Cx} {W : Wc} {a b c e tg : Expr} {f : FS} {fa fo fi : FE} {g : FG} {ft : FT} {fs : FA} {pos p p2 pt pt2 : Pos}
theorem js_asg (he : JE X W e fa) (hg : JG X W tg g) (hs : swapsWithSole [tg] e pos.line X.env = pure false := by rfl) (hw : swappedStores [tg] e X.env = pure none := by rfl)
    (h1 : (assignEach [tg] X.env).map (·.2) = [assign tg X.env] := by rfl) : JS X W (.Assign [tg] e pos) (sAsg g fa) := by
  refine ps_imp (ps_asg he hg hs hw h1) fun E σ H h => ?_
  obtain ⟨m, st, ρ, rs, re, h⟩ := h
  refine se_bind rs re h fun d st1 m1 H1 v r1 re1 mn rv h1 => ?_
  cases q : g d st1 ρ with
  | none => simp only [q] at h1; exact h1.elim
  | some ρ1 =>
    simp only [q] at h1
    exact ⟨m1, st1, ρ, d, ρ1, r1, re1, rv, q, fun σ' re' => h1 m1 H1 σ' r1 Mn.refl re'⟩
theorem js_par {i j : Nat} {x y : Str} {px py : Pos} {kt k2 : Nat} (hc : X.calm = true) (hN : X.N.Nodup) (hi : X.N[i]? = some x) (hj : X.N[j]? = some y) (hij : i ≠ j)
    (hx : X.env.scope.names.lookup x = some .local) (hy : X.env.scope.names.lookup y = some .local) (ha : JA X W [a, b] fs)
    (hw : swappedStores [.Tuple [.Name x px, .Name y py] kt pt] (.Tuple [a, b] k2 pt2) X.env = pure (some [x, y]))
    (hs : swapsWithSole [.Tuple [.Name x px, .Name y py] kt pt] (.Tuple [a, b] k2 pt2) pos.line X.env = pure false := by rfl) :
    JS X W (.Assign [.Tuple [.Name x px, .Name y py] kt pt] (.Tuple [a, b] k2 pt2) pos) (sPar i j fs) := by
  refine ps_imp (ps_par hc hN hi hj hij hx hy ha hw hs) fun E σ H h => ?_
  obtain ⟨m, st, ρ, rs, re, h⟩ := h
  refine sa_bind rs re h fun ds st1 m1 H1 vs r1 re1 mn rv h1 => ?_
  match ds, rv, h1 with
  | [d1, d2], rv, h1 =>
    obtain ⟨v, w, rfl, q1, q2⟩ := rvs2 rv
    exact ⟨v, w, rfl, h1 m1 H1 _ r1 Mn.refl ((re1.set q1).set q2)⟩
  | [], _, h1 => exact h1.elim
  | [_], _, h1 => exact h1.elim
  | _ :: _ :: _ :: _, _, h1 => exact h1.elim
theorem js_store (ho : JE X W a fo) (hi : JE X W b fi) (he : JE X W e fa)
    (hq : ∀ v, assign (.Subscript a b p) X.env v = (do
      let ov ← holding [v] (eval a X.env)
      let iv ← holding [v, ov] (eval b X.env)
      standAt p
      holding [v, ov, iv] (setItem ov iv v)
      release [v, ov, iv] []) := by intro _; rfl)
    (hs : swapsWithSole [.Subscript a b p] e pos.line X.env = pure false := by rfl) (hw : swappedStores [.Subscript a b p] e X.env = pure none := by rfl)
    (h1 : (assignEach [.Subscript a b p] X.env).map (·.2) = [assign (.Subscript a b p) X.env] := by rfl) : JS X W (.Assign [.Subscript a b p] e pos) (sStore fo fi fa) := by
  refine ps_imp (ps_asg he (pg_sub ho hi set_list hq) hs hw h1) fun E σ H h => ?_
  obtain ⟨m, st, ρ, rs, re, h⟩ := h
  refine se_bind rs re h fun d st1 m1 H1 v r1 re1 mn1 rv h1 => ?_
  refine se_bind r1 re1 h1 fun o st2 m2 H2 vo r2 re2 mn2 rvo h2 => ?_
  refine se_bind r2 re2 h2 fun k st3 m3 H3 vi r3 re3 mn3 rvi h3 => ?_
  have ro := mn3 _ _ rvo
  have rd := mn3 _ _ (mn2 _ _ rv)
  cases q : gStore o k d st3 with
  | none => simp only [q] at h3; exact h3.elim
  | some st4 =>
    simp only [q] at h3
    unfold gStore at q
    split at q
    · obtain ⟨_, rfl⟩ := ro
      cases rvi
      split at q
      · rename_i e0
        obtain ⟨j, e1, e2⟩ := Option.map_eq_some_iff.mp q
        obtain ⟨xs, g1, g2⟩ := r3.at_ _ _ e0
        cases e2
        obtain ⟨r4, mn4⟩ := r3.write e0 (RVs.set rd j g2)
        exact ⟨_, xs, _, j, rfl, rfl, g1, by rw [← RVs.len g2]; exact e1, h3 _ _ σ r4 mn4 (re3.mono mn4)⟩
      · cases q
    · cases q
end
/-! ### loops -/
section
variable {X : Cx} {W : Wc}
/-- over anything that yields the data ds one by one -/
theorem loop_ok {K : PySem.W.Frag} {mg : Str → Option Value} {J : It} {ds : List D} {d0 : D} {v0 : V} {chk : S → Bool} {g : FG} {body : FS} {E : Ends}
    (hJ : ∀ m st H, RS K m st H → RV K m st.length H d0 v0 → chk st = true →
      (∀ i d, ds[i]? = some d → J.go i H ∧ ∀ x H', J.yld i H x H' → ∃ m', RS K m' st H' ∧ Mn K m st.length H m' st.length H' ∧ RV K m' st.length H' d x) ∧ J.stop ds.length H)
    {m : Nat → Addr} {st : S} {ρ : En} {σ : L2.St} {H : Hp} (rs : RS K m st H) (re : RE W.gh K m st.length H ρ σ) (r0 : RV K m st.length H d0 v0) (h : MeetS K mg W m st.length H (sLoop chk g body ds ρ st) E) :
    ∃ Wd : Nat → Nat → L2.St → Hp → Prop, (∃ k, Wd 0 k σ H) ∧ ∀ i k σ H, Wd i k σ H → (J.stop i H ∧ E.nx σ H) ∨ (J.go i H ∧ ∃ N : L2.St → Hp → Prop, (∀ σ' H', N σ' H' → ∃ k', k' < k ∧ Wd (i + 1) k' σ' H') ∧ ∀ x H', J.yld i H x H' → rG K W g x σ H' fun σ2 H2 => rS K mg W body { E with nx := N, ct := N, bk := E.nx } σ2 H2) := by
  refine ⟨fun i k σ H => k = ds.length - i ∧ i ≤ ds.length ∧ ∃ m st ρ, RS K m st H ∧ RE W.gh K m st.length H ρ σ ∧ RV K m st.length H d0 v0 ∧ MeetS K mg W m st.length H (sLoop chk g body (ds.drop i) ρ st) E, ⟨_, rfl, Nat.zero_le _, m, st, ρ, rs, re, r0, h⟩, ?_⟩
  rintro i k σ H ⟨rfl, hi, m, st, ρ, rs, re, r0, h⟩
  by_cases hlt : i < ds.length
  · have e : ds.drop i = ds[i] :: ds.drop (i + 1) := List.drop_eq_getElem_cons hlt
    rw [e] at h
    unfold sLoop at h
    by_cases hc : chk st = true
    · rw [if_pos hc] at h
      have hd : ds[i]? = some ds[i] := List.getElem?_eq_getElem hlt
      obtain ⟨j1, j2⟩ := (hJ m st H rs r0 hc).1 i ds[i] hd
      refine .inr ⟨j1, fun σ' H' => ∃ m st ρ, RS K m st H' ∧ RE W.gh K m st.length H' ρ σ' ∧ RV K m st.length H' d0 v0 ∧ MeetS K mg W m st.length H' (sLoop chk g body (ds.drop (i + 1)) ρ st) E, fun σ' H' z => ⟨ds.length - (i + 1), by omega, rfl, hlt, z⟩, fun x H' y => ?_⟩
      obtain ⟨m', rs', mn', rv'⟩ := j2 x H' y
      have h := MeetS.later h mn'
      have re' := re.mono mn'
      have r0' := mn' _ _ r0
      cases q : g ds[i] st ρ with
      | none => rw [q] at h; exact h.elim
      | some ρ1 =>
        rw [q] at h
        refine ⟨m', st, ρ, ds[i], ρ1, rs', re', rv', q, fun σ1 re1 => ⟨m', st, ρ1, rs', re1, ?_⟩⟩
        cases b : body ρ1 st with
        | nx ρ2 st2 =>
          simp only [b] at h
          exact fun m2 H2 σ2 r2 mn2 re2 => ⟨m2, st2, ρ2, r2, re2, mn2 _ _ r0', MeetS.later h mn2⟩
        | ct ρ2 st2 =>
          simp only [b] at h
          exact fun m2 H2 σ2 r2 mn2 re2 => ⟨m2, st2, ρ2, r2, re2, mn2 _ _ r0', MeetS.later h mn2⟩
        | bk ρ2 st2 => simp only [b] at h; exact h
        | rt d st2 => simp only [b] at h; exact h
        | ex e ρ2 st2 => simp only [b] at h; exact h
        | bad => simp only [b] at h; exact h
    · rw [if_neg hc] at h; exact h.elim
  · have e : i = ds.length := by omega
    subst e
    rw [List.drop_length] at h
    unfold sLoop at h
    by_cases hc : chk st = true
    · rw [if_pos hc] at h
      exact .inl ⟨(hJ m st H rs r0 hc).2, h m H σ rs Mn.refl re⟩
    · rw [if_neg hc] at h; exact h.elim
/-- a list or a tuple, as it comes -/
def iSeq (K : PySem.W.Frag) (tl : TE) : TI := fun σ H R => tl σ H fun x H1 => (∃ a, x = .ref a ∧ (((∃ xs, SqL K H1 a xs) ∧ R (Itl K a) H1) ∨ ((∃ xs, SqT K H1 a xs) ∧ R (Itt K a) H1))) ∨ ∃ z, x = .str z ∧ R (Its z) H1
theorem pi_seq {tg l : Expr} {tl : TE} (hl : PE X l tl) : PI X tg l (iSeq X.K tl) := by
  refine ⟨fun pins s σ H R I h => ?_⟩
  refine thn (hl.run pins s σ H _ I h) fun v s1 hh => ?_
  obtain ⟨x, H1, I1, r1, hh⟩ := hh
  rcases hh.symm with ⟨z, rfl, q⟩ | ⟨a, rfl, h2⟩
  · obtain ⟨t, rfl⟩ := r1
    cases ha : z.cps.all (· < 128)
    · exact wpAny_pyIter_wide ha (pi_one (tk := s1.toks) I1 _ (turn_str _ z t "str_iterator" (.inr rfl)) ⟨_, Heap.get?_push_size _ rfl, rfl, rfl⟩ q)
    · exact wpAny_pyIter_ascii ha (pi_one (tk := s1.toks) I1 _ (turn_str _ z t "str_ascii_iterator" (.inl rfl)) ⟨_, Heap.get?_push_size _ rfl, rfl, rfl⟩ q)
  cases r1
  have fp : ∀ b ∈ [s1.heap.objs.size], FpOk X pins H1 b := fun b hb => by
    cases List.mem_singleton.mp hb
    exact I1.fpOk (Nat.le_refl _) (I1.hok.fresh (Nat.le_refl _))
  rcases h2 with ⟨⟨xs, hq⟩, q⟩ | ⟨⟨xs, hq⟩, q⟩
  · obtain ⟨its, rv, p, hz⟩ := I1.list hq
    exact wpAny_pyIter_list p.isList ⟨_, _, _, _, H1, rfl, I1.kept (t' := s1.toks) fun b o e => Heap.get?_push_of_some _ e, turn_list a _, ⟨_, Heap.get?_push_size _ rfl, rfl, rfl⟩, fp, q⟩
  · obtain ⟨its, rv, p, hz⟩ := I1.tuple hq
    exact wpAny_pyIter_tuple (show s1.heap.IsTuple a its.toArray from p) ⟨_, _, _, _, H1, rfl, I1.kept (t' := s1.toks) fun b o e => Heap.get?_push_of_some _ e, turn_tuple a _, ⟨_, Heap.get?_push_size _ rfl, rfl, rfl⟩, fp, q⟩
variable {tg e : Expr} {sts : List Stmt} {fe : FE} {fs : FA} {g : FG} {body : FS} {ft : FT} {pos p : Pos}
theorem js_for (hp : PassesOwn (model X.prog X.w) X.A X.env X.xe) (hc : X.calm = true) (he : JE X W e fe) (hg : JG X W tg g) (hb : JB X W sts body) (hs : ∀ x, foldedSetIterable e X.env x = pure x := by intro _; rfl) : JS X W (.For tg e sts [] pos) (sFor fe g body) := by
  refine ps_imp (ps_for hp hc (pi_seq he) hg hb hs) fun E σ H h => ?_
  obtain ⟨m, st, ρ, rs, re, h⟩ := h
  refine se_bind rs re h fun d st1 m1 H1 v r1 re1 mn rv h1 => ?_
  cases d with
  | tup ds =>
    have rv0 := rv
    obtain ⟨a, vs, rfl, q1, q2⟩ := rv
    refine .inl ⟨a, rfl, .inr ⟨⟨vs, q1⟩, loop_ok (d0 := .tup ds) (v0 := .ref a) (chk := fun _ => true) (fun m st H rs r0 _ => ?_) r1 re1 rv0 h1⟩⟩
    obtain ⟨a', ws, ea, q3, q4⟩ := r0
    cases ea
    refine ⟨fun i d hi => ?_, ⟨ws, q3, by rw [RVs.len q4]; exact Nat.le_refl _⟩⟩
    obtain ⟨x, g1, g2⟩ := RVs.get q4 hi
    refine ⟨⟨ws, x, q3, g1⟩, fun y H' yl => ?_⟩
    obtain ⟨rfl, yl⟩ := yl
    have := yl ws q3
    rw [g1] at this
    cases this
    exact ⟨m, rs, Mn.refl, g2⟩
  | loc n =>
    have rv0 := rv
    obtain ⟨hn, rfl⟩ := rv
    simp only at h1
    cases q : lstAt st1 n with
    | none => simp only [q] at h1; exact h1.elim
    | some ds =>
      simp only [q] at h1
      obtain ⟨vs, g1, g2, _⟩ := lstAt_ok r1 q
      refine .inl ⟨_, rfl, .inl ⟨⟨vs, g1⟩, loop_ok (d0 := .loc n) (v0 := .ref (m1 n)) (fun m st H rs r0 hc => ?_) r1 re1 rv0 h1⟩⟩
      obtain ⟨hn', ea⟩ := r0
      have ea' : m1 n = m n := V.ref.inj ea
      obtain ⟨ws, q3, q4, _⟩ := lstAt_ok rs (of_decide_eq_true hc)
      rw [← ea'] at q3
      refine ⟨fun i d hi => ?_, ⟨ws, q3, by rw [RVs.len q4]; exact Nat.le_refl _⟩⟩
      obtain ⟨x, g1, g2⟩ := RVs.get q4 hi
      refine ⟨⟨ws, x, q3, g1⟩, fun y H' yl => ?_⟩
      obtain ⟨rfl, yl⟩ := yl
      have := yl ws q3
      rw [g1] at this
      cases this
      exact ⟨m, rs, Mn.refl, g2⟩
  | str z =>
    obtain rfl : v = .str z := rv
    refine .inr ⟨z, rfl, loop_ok (d0 := .non) (v0 := .non) (chk := fun _ => true) (fun m st H rs r0 _ => ⟨fun i d hi => ?_, ?_⟩) r1 re1 rfl h1⟩
    · unfold signs at hi
      rw [List.getElem?_map] at hi
      obtain ⟨c, e1, e2⟩ := Option.map_eq_some_iff.mp hi
      rw [Array.getElem?_toList] at e1
      refine ⟨(Array.getElem?_eq_some_iff.mp e1).1, fun x H' y => ?_⟩
      obtain ⟨rfl, c', e3, rfl⟩ := y
      rw [e1] at e3
      cases e3
      subst e2
      exact ⟨m, rs, Mn.refl, rfl⟩
    · show z.cps.size ≤ (signs z).length
      unfold signs
      rw [List.length_map, Array.length_toList]
      exact Nat.le_refl _
  | _ => exact h1.elim
theorem rng_ok {K : PySem.W.Frag} {mg : Str → Option Value} {lo hi : Int} {E : Ends} {m : Nat → Addr} {st : S} {ρ : En} {σ : L2.St} {H : Hp} (rs : RS K m st H) (re : RE W.gh K m st.length H ρ σ) (h : MeetS K mg W m st.length H (sLoop (fun _ => true) g body (rangeD lo hi) ρ st) E) :
    ∃ Wd : Nat → Nat → L2.St → Hp → Prop, (∃ k, Wd 0 k σ H) ∧ ∀ i k σ H, Wd i k σ H → ((Itr lo (hi - lo).toNat).stop i H ∧ E.nx σ H) ∨ ((Itr lo (hi - lo).toNat).go i H ∧ ∃ N : L2.St → Hp → Prop, (∀ σ' H', N σ' H' → ∃ k', k' < k ∧ Wd (i + 1) k' σ' H') ∧ ∀ x H', (Itr lo (hi - lo).toNat).yld i H x H' → rG K W g x σ H' fun σ2 H2 => rS K mg W body { E with nx := N, ct := N, bk := E.nx } σ2 H2) := by
  refine loop_ok (d0 := .non) (v0 := .non) (fun m st H rs r0 _ => ⟨fun i d hi => ?_, ?_⟩) rs re rfl h
  · have hl := (List.getElem?_eq_some_iff.mp hi).1
    unfold rangeD at hi hl
    rw [List.length_map, List.length_range] at hl
    rw [List.getElem?_map, List.getElem?_range hl] at hi
    cases hi
    refine ⟨hl, fun x H' y => ?_⟩
    obtain ⟨rfl, rfl⟩ := y
    exact ⟨m, rs, Mn.refl, rfl⟩
  · show (hi - lo).toNat ≤ (rangeD lo hi).length
    unfold rangeD
    rw [List.length_map, List.length_range]
    exact Nat.le_refl _
theorem js_forR1 {a : Expr} {pos2 : Pos} (hp : PassesOwn (model X.prog X.w) X.A X.env X.xe) (hc : X.calm = true) (hgl : Gl X "range") (hm : X.mg "range" = none) (ha : JA X W [a] fs) (hg : JG X W tg g) (hb : JB X W sts body)
    (hst : starEach [a] X.env = [(false, eval a X.env)] := by rfl) (hs : ∀ x, foldedSetIterable (.Call (.Name "range" p) [a] [] pos) X.env x = pure x := by intro _; rfl) :
    JS X W (.For tg (.Call (.Name "range" p) [a] [] pos) sts [] pos2) (sForR1 fs g body) := by
  refine ps_imp (ps_for hp hc (pi_range1 hgl hm ha hst) hg hb hs) fun E σ H h => ?_
  obtain ⟨m, st, ρ, rs, re, h⟩ := h
  refine sa_bind rs re h fun ds st1 m1 H1 vs r1 re1 mn rv h1 => ?_
  by_cases hx : ∃ j, ds = [.int j]
  · obtain ⟨j, rfl⟩ := hx
    obtain ⟨v, rfl, rfl⟩ := rvs1 rv
    simp only at h1
    by_cases hj : Small62 j
    · rw [if_pos hj] at h1
      refine ⟨j, rfl, hj.1, hj.2, ?_⟩
      have z := rng_ok (lo := 0) (hi := j) r1 re1 h1
      rw [Int.sub_zero] at z
      exact z
    · rw [if_neg hj] at h1; exact h1.elim
  · exfalso
    revert h1
    split
    · exact fun _ => hx ⟨_, rfl⟩
    · exact fun h => h
theorem js_forR2 {a b : Expr} {pos2 : Pos} (hp : PassesOwn (model X.prog X.w) X.A X.env X.xe) (hc : X.calm = true) (hgl : Gl X "range") (hm : X.mg "range" = none) (ha : JA X W [a, b] fs) (hg : JG X W tg g) (hb : JB X W sts body)
    (hst : starEach [a, b] X.env = [(false, eval a X.env), (false, eval b X.env)] := by rfl) (hst2 : starEach [b] X.env = [(false, eval b X.env)] := by rfl) (hs : ∀ x, foldedSetIterable (.Call (.Name "range" p) [a, b] [] pos) X.env x = pure x := by intro _; rfl) :
    JS X W (.For tg (.Call (.Name "range" p) [a, b] [] pos) sts [] pos2) (sForR2 fs g body) := by
  refine ps_imp (ps_for hp hc (pi_range2 hgl hm ha hst hst2) hg hb hs) fun E σ H h => ?_
  obtain ⟨m, st, ρ, rs, re, h⟩ := h
  refine sa_bind rs re h fun ds st1 m1 H1 vs r1 re1 mn rv h1 => ?_
  by_cases hx : ∃ i j, ds = [.int i, .int j]
  · obtain ⟨i, j, rfl⟩ := hx
    obtain ⟨v, w, rfl, rfl, rfl⟩ := rvs2 rv
    simp only at h1
    by_cases hj : Small62 i ∧ Small62 j
    · rw [if_pos hj] at h1
      exact ⟨i, j, rfl, ⟨hj.1.1, hj.1.2, hj.2.1, hj.2.2⟩, rng_ok r1 re1 h1⟩
    · rw [if_neg hj] at h1; exact h1.elim
  · exfalso
    revert h1
    split
    · exact fun _ => hx ⟨_, _, rfl⟩
    · exact fun h => h
theorem js_while (hp : PassesOwn (model X.prog X.w) X.A X.env X.xe) (ht : JT X W e ft) (hb : JB X W sts body) : JS X W (.While e sts [] pos) (sWhile ft body) := by
  refine ps_imp (ps_while hp ht hb) fun E σ H h => ?_
  obtain ⟨m, st, ρ, rs, re, h⟩ := h
  have hn : ∃ n, sWhile ft body ρ st = sWh ft body n ρ st := by
    unfold sWhile
    by_cases ex : ∃ n, sWh ft body n ρ st ≠ .bad
    · exact ⟨_, by rw [dif_pos ex]⟩
    · exact ⟨0, by rw [dif_neg ex]; rfl⟩
  obtain ⟨n, e⟩ := hn
  rw [e] at h
  refine ⟨fun n σ H => ∃ m st ρ, RS X.K m st H ∧ RE W.gh X.K m st.length H ρ σ ∧ MeetS X.K X.mg W m st.length H (sWh ft body n ρ st) E, ⟨n, m, st, ρ, rs, re, h⟩, ?_⟩
  rintro k σ H ⟨m, st, ρ, rs, re, h⟩
  cases k with
  | zero => exact h.elim
  | succ k =>
    unfold sWh at h
    refine st_bind rs re h fun c st1 m1 H1 r1 re1 mn h1 => ?_
    cases c with
    | false => rw [if_neg Bool.false_ne_true] at h1 ⊢; exact h1 m1 H1 σ r1 Mn.refl re1
    | true =>
      rw [if_pos rfl] at h1 ⊢
      refine ⟨fun σ H => ∃ m st ρ, RS X.K m st H ∧ RE W.gh X.K m st.length H ρ σ ∧ MeetS X.K X.mg W m st.length H (sWh ft body k ρ st) E, fun σ' H' z => ⟨k, Nat.lt_succ_self _, z⟩, m1, st1, ρ, r1, re1, ?_⟩
      cases b : body ρ st1 with
      | nx ρ2 st2 =>
        simp only [b] at h1
        exact fun m2 H2 σ2 r2 mn2 re2 => ⟨m2, st2, ρ2, r2, re2, MeetS.later h1 mn2⟩
      | ct ρ2 st2 =>
        simp only [b] at h1
        exact fun m2 H2 σ2 r2 mn2 re2 => ⟨m2, st2, ρ2, r2, re2, MeetS.later h1 mn2⟩
      | bk ρ2 st2 => simp only [b] at h1; exact h1
      | rt d st2 => simp only [b] at h1; exact h1
      | ex e ρ2 st2 => simp only [b] at h1; exact h1
      | bad => simp only [b] at h1; exact h1
end
end MP

set_option Elab.async false
set_option linter.all false
set_option maxRecDepth 100000
set_option maxHeartbeats 4000000
namespace MP
open PySem L2 PyProof.Rows StX

/-! ### defs: their denotation, what they promise -/
def den (n : Nat) (f : FS) : List D → S → Out D := fun ds st => match f (ds.map some ++ List.replicate (n - ds.length) none) st with
  | .rt d st' => .ok d st'
  | .nx _ st' => .ok .non st'
  | .ex e _ st' => .exc e st'
  | _ => .bad
/-- n arguments, no other number -/
def arN (n : Nat) (g : List D → S → Out D) : List D → S → Out D := fun ds st => if ds.length = n then g ds st else .bad
def spG (K : PySem.W.Frag) (mg : Str → Option Value) (g : List D → S → Out D) : Sp := fun vs H Q E => ∃ m st ds, RS K m st H ∧ RVs K m st.length H ds vs ∧
  Meet K mg m st.length H (g ds st) (fun d st' m' H' => ∀ v, RV K m' st'.length H' d v → Q v H') E
theorem spG_len {K : PySem.W.Frag} {mg : Str → Option Value} {n : Nat} {g : List D → S → Out D} {vs : List V} {H : Hp} {Q : VK} {E : XK} (h : spG K mg (arN n g) vs H Q E) : vs.length = n := by
  obtain ⟨m, st, ds, rs, rv, h⟩ := h
  unfold arN at h
  by_cases hl : ds.length = n
  · rw [← RVs.len rv]; exact hl
  · rw [if_neg hl] at h; exact h.elim
theorem spG_arN {K : PySem.W.Frag} {mg : Str → Option Value} {n : Nat} {g : List D → S → Out D} {vs : List V} {H : Hp} {Q : VK} {E : XK} (h : spG K mg (arN n g) vs H Q E) : spG K mg g vs H Q E := by
  obtain ⟨m, st, ds, rs, rv, h⟩ := h
  refine ⟨m, st, ds, rs, rv, ?_⟩
  unfold arN at h
  by_cases hl : ds.length = n
  · rw [if_pos hl] at h; exact h
  · rw [if_neg hl] at h; exact h.elim
/-- the wish of a def's body -/
abbrev wcE (E : XK) : Wc := { W := fun cls d _ H => E cls d H }
theorem re_start {K : PySem.W.Frag} {m : Nat → Addr} {n : Nat} {H : Hp} : ∀ {ds : List D} {vs : List V} (k : Nat), RVs K m n H ds vs → RE [] K m n H (ds.map some ++ List.replicate k none) (vs.map some ++ List.replicate k none) := by
  intro ds vs k h
  have l := RVs.len h
  refine ⟨by simp [l], fun i d e => ?_, fun p hp => nomatch hp⟩
  by_cases hi : i < ds.length
  · rw [List.getElem?_append_left (by simpa using hi), List.getElem?_map] at e
    obtain ⟨d', e1, e2⟩ := Option.map_eq_some_iff.mp e
    cases e2
    obtain ⟨v, h1, h2⟩ := RVs.get h e1
    refine ⟨v, ?_, h2⟩
    rw [List.getElem?_append_left (by rw [List.length_map, ← l]; exact hi), List.getElem?_map, h1]
    rfl
  · rw [List.getElem?_append_right (by simpa using hi), List.getElem?_replicate] at e
    split at e <;> cases e
/-- the body's denotation gives the def's reading -/
theorem body_reads {K : PySem.W.Frag} {mg : Str → Option Value} {N : List Str} {n : Nat} {f : FS} {vs : List V} {H : Hp} {Q : VK} {E : XK} (h : spG K mg (arN n (den N.length f)) vs H Q E) :
    rS K mg (wcE E) f { nx := fun _ H' => Q .non H', rt := Q } (L2.start N vs) H := by
  obtain ⟨m, st, ds, rs, rv, h⟩ := spG_arN h
  refine ⟨m, st, ds.map some ++ List.replicate (N.length - ds.length) none, rs, ?_, ?_⟩
  · have z := re_start (N.length - ds.length) rv
    unfold L2.start
    rw [← RVs.len rv]
    exact z
  · unfold den at h
    cases q : f (ds.map some ++ List.replicate (N.length - ds.length) none) st with
    | nx ρ st' => simp only [q] at h; exact fun m' H' σ r mn _ => h m' H' r mn .non rfl
    | rt d st' => simp only [q] at h; exact fun m' H' v r mn rv => h m' H' r mn v rv
    | bk ρ st' => simp only [q] at h; exact h.elim
    | ct ρ st' => simp only [q] at h; exact h.elim
    | ex e ρ st' => simp only [q] at h; exact fun m' H' σ cls od r mn _ rx => h m' H' cls od r mn rx
    | bad => simp only [q] at h; exact h
section
variable {P : Program} {w : World} {K : PySem.W.Frag} {mg : Str → Option Value} {base : Heap} {x qual : Str} {params : Arguments} {body : List Stmt} {scope : Scope} {dvs : List V} {kws : List (Str × V)} {f : Addr} {fd : FuncData}
theorem def_ok {N ps : List Str} {k : Nat} {g : FS} (F : FunD K x qual params body scope dvs kws f fd) (Sc : FnScope N ps scope)
    (hb : ∀ (cdv : Value) (A : Around) (outer : List PySem.Env) (s : Shared) (H : Hp) (E : XK), Room k (A.deeper (envOfC qual scope s.heap.objs.size f cdv)) →
      JB (cxOf (L2N.CX P w) P w K mg base N qual scope f cdv A outer s H E) (wcE E) body g) :
    FnOk P w K mg base (L2N.CX P w) (k + 1) f fd ps (spG K mg (arN ps.length (den N.length g))) :=
  F.ok Sc (fun vs H Q E h => spG_len h) fun cdv A outer s H vs Q E hr h => ⟨_, hb cdv A outer s H E hr, body_reads h⟩
theorem def_okH {N ps : List Str} {k : Nat} {g : FS} (F : FunD K x qual params body scope dvs kws f fd) (Sc : FnScope N ps scope)
    (hb : ∀ (cdv : Value) (A : Around) (outer : List PySem.Env) (s : Shared) (H : Hp) (E : XK) (p : Addr × Obj), L2H.Hot1 A p → L2H.RoomH k (A.deeper (envOfC qual scope s.heap.objs.size f cdv)) →
      JB (L2H.cxH (L2N.CX P w) P w K mg base N qual scope f cdv A outer s H E p) (wcE E) body g) :
    L2H.FnH P w K mg base (L2N.CX P w) (k + 1) f fd ps (spG K mg (arN ps.length (den N.length g))) := by
  obtain ⟨oc, od, dV, kV, doc, pm, an, cdv, ct, osl, rfl, lk, hcd, _, _⟩ := F.ex
  exact L2H.fn_ofH lk hcd Sc (fun vs H Q E h => spG_len h) fun A outer s H vs Q E p hot hr h => ⟨_, hb cdv A outer s H E p hot hr, body_reads h⟩
end

/-! ### calls -/
/-- room for a call: within an except suite (hot) or not -/
def Temp (hot : Bool) (k : Nat) (A : Around) (outer : List PySem.Env) (H : Hp) (s : Shared) : Prop := match hot with
  | false => Room k A
  | true => L2H.RoomH k A ∧ ∃ p, L2H.Hot1 A p ∧ L2H.PinOk outer H s p
def TempX (hot : Bool) (k : Nat) (X : Cx) : Prop := match hot with
  | false => Room k X.A
  | true => L2H.RoomH k X.A ∧ L2H.HotC X
theorem TempX.at {hot : Bool} {k : Nat} {X : Cx} {pins : List (Addr × Obj)} {σ : L2.St} {H : Hp} {s : Shared} (t : TempX hot k X) (I : Inv X pins σ H s) : Temp hot k X.A X.stack H s := by
  cases hot with
  | false => exact t
  | true =>
    obtain ⟨r, p, ht, hp⟩ := t
    have P1 := I.pin p (List.mem_append_left _ hp)
    exact ⟨r, p, ht, P1.1, P1.2.1, fun hm => (List.mem_cons.mp (I.stkSub p.1 hm)).elim P1.2.2.1 P1.2.2.2.1, P1.2.2.2.2⟩
theorem TempX.mono {hot : Bool} {j k : Nat} {X : Cx} (t : TempX hot k X) (h : j ≤ k) : TempX hot j X := by
  cases hot with
  | false => exact Room.mono t h
  | true => exact ⟨t.1.mono h, t.2⟩
/-- f called with positional values and the keywords ks does as g says of all these values -/
def Rn (hot : Bool) (P : Program) (w : World) (K : PySem.W.Frag) (mg : Str → Option Value) (base : Heap) (k : Nat) (f : Addr) (ks : List Str) (g : List D → S → Out D) : Prop :=
  ∀ (A : Around) (outer : List PySem.Env) (s : Shared) (H : Hp) (us ws : List Value) (vs zs : List V) (Q : VK) (E : XK), Temp hot k A outer H s → Env0 P w K mg base A outer s H → Vals vs us → Vals zs ws → ws.length = ks.length → spG K mg g (vs ++ zs) H Q E →
    codeAny (model P w) A (.call (.ref f) ⟨us, ks.zip ws⟩) (CR (L2N.CX P w) outer P w H s Q E) s
structure DefOk (hot : Bool) (P : Program) (w : World) (K : PySem.W.Frag) (mg : Str → Option Value) (base : Heap) (x : Str) (ks : List Str) (k : Nat) (g : List D → S → Out D) : Prop where
  ex : ∃ f, mg x = some (.ref f) ∧ PySem.W.keepIn K (.ref f) = true ∧ Rn hot P w K mg base k f ks g
section
variable {P : Program} {w : World} {K : PySem.W.Frag} {mg : Str → Option Value} {base : Heap} {k : Nat} {f : Addr} {fd : FuncData} {ps : List Str} {n : Nat} {g : List D → S → Out D}
theorem FnOk.temp {hot : Bool} {sp : Sp} (h : match hot with | false => FnOk P w K mg base (L2N.CX P w) k f fd ps sp | true => L2H.FnH P w K mg base (L2N.CX P w) k f fd ps sp)
    (A : Around) (outer : List PySem.Env) (s : Shared) (H : Hp) (args : Args) (us : List Value) (vs : List V) (Q : VK) (E : XK) (t : Temp hot k A outer H s) (e0 : Env0 P w K mg base A outer s H) (hb : BindsTo s fd args (ps.zip us)) (r : Vals vs us) (hs : sp vs H Q E) :
    codeAny (model P w) A (.call (.ref f) args) (CR (L2N.CX P w) outer P w H s Q E) s := by
  cases hot with
  | false => exact h.run A outer s H args us vs Q E t e0 hb r hs
  | true =>
    obtain ⟨r1, p, h1, h2⟩ := t
    exact h.run A outer s H args us vs Q E p r1 h1 h2 e0 hb r hs
/-- positional, no defaults -/
theorem rn_pos {hot : Bool} (h : match hot with | false => FnOk P w K mg base (L2N.CX P w) k f fd ps (spG K mg (arN n g)) | true => L2H.FnH P w K mg base (L2N.CX P w) k f fd ps (spG K mg (arN n g))) (hn : ps.length = n) (hb : Binds K fd ps []) : Rn hot P w K mg base k f [] (arN n g) := by
  intro A outer s H us ws vs zs Q E t e0 r rz hl hs
  have ez : ws = [] := List.length_eq_zero_iff.mp hl
  subst ez
  cases rz
  have KX : K.In s.heap := e0.mod.kin.keeps fun b o e => (e0.bs b o e).1
  rw [List.append_nil] at hs
  have l := spG_len hs
  have b := hb s us KX (by rw [List.append_nil, ← r.length, l, hn])
  rw [List.append_nil] at b
  exact FnOk.temp h A outer s H ⟨us, []⟩ us vs Q E t e0 b r hs
/-- the arguments filled up by defaults -/
def withD (n : Nat) (dds : List D) (g : List D → S → Out D) : List D → S → Out D := fun ds st =>
  if n - dds.length ≤ ds.length ∧ ds.length ≤ n then g (ds ++ dds.drop (ds.length - (n - dds.length))) st else .bad
theorem rn_dfl {hot : Bool} {dds : List D} {dvs : List V} (h : match hot with | false => FnOk P w K mg base (L2N.CX P w) k f fd ps (spG K mg (arN n g)) | true => L2H.FnH P w K mg base (L2N.CX P w) k f fd ps (spG K mg (arN n g))) (hn : ps.length = n) (hd : dds.length ≤ n)
    (hr : ∀ (m : Nat → Addr) (j : Nat) (H : Hp), RVs K m j H dds dvs) (hb : ∀ j, j ≤ dds.length → ∃ ds, Vals (dvs.drop j) ds ∧ Binds K fd ps ds) : Rn hot P w K mg base k f [] (withD n dds (arN n g)) := by
  intro A outer s H us ws vs zs Q E t e0 r rz hl hs
  have ez : ws = [] := List.length_eq_zero_iff.mp hl
  subst ez
  cases rz
  have KX : K.In s.heap := e0.mod.kin.keeps fun b o e => (e0.bs b o e).1
  rw [List.append_nil] at hs
  obtain ⟨m, st, ds, rs, rv, hm⟩ := hs
  unfold withD at hm
  by_cases hc : n - dds.length ≤ ds.length ∧ ds.length ≤ n
  · rw [if_pos hc] at hm
    obtain ⟨xs, rx, b⟩ := hb (ds.length - (n - dds.length)) (by omega)
    have sp : spG K mg (arN n g) (vs ++ dvs.drop (ds.length - (n - dds.length))) H Q E := ⟨m, st, _, rs, RVs.app rv (RVs.drop _ (hr _ _ _)), hm⟩
    have l := spG_len sp
    have r2 : Vals (vs ++ dvs.drop (ds.length - (n - dds.length))) (us ++ xs) := r.append rx
    exact FnOk.temp h A outer s H ⟨us, []⟩ (us ++ xs) _ Q E t e0 (b s us KX (by rw [← r2.length, l, hn])) r2 sp
  · rw [if_neg hc] at hm; exact hm.elim
/-- keywords: sel tells for each parameter its place among the positional values, the keywords' values, the defaults -/
def pick {α : Type} (sel : List Nat) (l : List α) : List α := sel.filterMap fun i => l[i]?
theorem pick_vals {sel : List Nat} {vs : List V} {us : List Value} (r : Vals vs us) : Vals (pick sel vs) (pick sel us) := by
  induction sel with
  | nil => exact .nil
  | cons i sel ih =>
    unfold pick
    rw [List.filterMap_cons, List.filterMap_cons]
    cases e : vs[i]? with
    | none => rw [r.none_of e]; exact ih
    | some v =>
      obtain ⟨u, h1, h2⟩ := r.get e
      rw [h1]
      exact .cons h2 ih
theorem pick_rvs {K : PySem.W.Frag} {m : Nat → Addr} {n : Nat} {H : Hp} {sel : List Nat} {ds : List D} {vs : List V} (r : RVs K m n H ds vs) : RVs K m n H (pick sel ds) (pick sel vs) := by
  induction sel with
  | nil => exact rfl
  | cons i sel ih =>
    unfold pick
    rw [List.filterMap_cons, List.filterMap_cons]
    cases e : ds[i]? with
    | none =>
      have : vs[i]? = none := by
        rw [List.getElem?_eq_none_iff] at e ⊢
        rw [← RVs.len r]; exact e
      rw [this]
      exact ih
    | some d =>
      obtain ⟨v, h1, h2⟩ := RVs.get r e
      rw [h1]
      exact ⟨v, _, rfl, h2, ih⟩
def withK (np : Nat) (dds : List D) (sel : List Nat) (g : List D → S → Out D) : List D → S → Out D := fun ds st => if ds.length = np then g (pick sel (ds ++ dds)) st else .bad
theorem rn_kw {hot : Bool} {dds : List D} {dvs : List V} {dus : List Value} {ks : List Str} {np : Nat} {sel : List Nat} (h : match hot with | false => FnOk P w K mg base (L2N.CX P w) k f fd ps (spG K mg (arN n g)) | true => L2H.FnH P w K mg base (L2N.CX P w) k f fd ps (spG K mg (arN n g))) (hn : ps.length = n)
    (hr : ∀ (m : Nat → Addr) (j : Nat) (H : Hp), RVs K m j H dds dvs) (hv : Vals dvs dus) (hb : ∀ (s : Shared) (us ws : List Value), K.In s.heap → us.length + ws.length = np → ws.length = ks.length → BindsTo s fd ⟨us, ks.zip ws⟩ (ps.zip (pick sel (us ++ ws ++ dus)))) : Rn hot P w K mg base k f ks (withK np dds sel (arN n g)) := by
  intro A outer s H us ws vs zs Q E t e0 r rz hl hs
  have KX : K.In s.heap := e0.mod.kin.keeps fun b o e => (e0.bs b o e).1
  obtain ⟨m, st, ds, rs, rv, hm⟩ := hs
  unfold withK at hm
  by_cases hc : ds.length = np
  · rw [if_pos hc] at hm
    have sp : spG K mg (arN n g) (pick sel (vs ++ zs ++ dvs)) H Q E := ⟨m, st, _, rs, pick_rvs (RVs.app rv (hr _ _ _)), hm⟩
    have r2 : Vals (pick sel (vs ++ zs ++ dvs)) (pick sel (us ++ ws ++ dus)) := pick_vals ((r.append rz).append hv)
    refine FnOk.temp h A outer s H ⟨us, ks.zip ws⟩ _ _ Q E t e0 (hb s us ws KX ?_ hl) r2 sp
    have l := RVs.len rv
    rw [List.length_append] at l
    rw [← r.length, ← rz.length, ← l, hc]
  · rw [if_neg hc] at hm; exact hm.elim
end
theorem Rn.mono {hot : Bool} {P : Program} {w : World} {K : PySem.W.Frag} {mg : Str → Option Value} {base : Heap} {j k : Nat} {f : Addr} {ks : List Str} {g : List D → S → Out D} (h : Rn hot P w K mg base j f ks g) (hk : j ≤ k) : Rn hot P w K mg base k f ks g := by
  intro A outer s H us ws vs zs Q E t
  refine h A outer s H us ws vs zs Q E ?_
  cases hot with
  | false => exact Room.mono t hk
  | true => exact ⟨t.1.mono hk, t.2⟩
section
variable {X : Cx} {W : Wc} {x : Str} {k : Nat} {ks : List Str} {g : List D → S → Out D} {p pos : Pos} {e : Expr} {es : List Expr} {kws : List Keyword} {fs fk : FA} {hot : Bool}
theorem run_rn {pins : List (Addr × Obj)} {σ : L2.St} {H : Hp} {s : Shared} {Q : VK} {f : Addr} {us ws : List Value} {vs zs : List V} (F : Rn hot X.prog X.w X.K X.mg X.base k f ks g) (hr : TempX hot k X) (tk : L2N.Takes X W.W)
    (I : Inv X pins σ H s) (r : Vals vs us) (rz : Vals zs ws) (hl : ws.length = ks.length) (h : spG X.K X.mg g (vs ++ zs) H Q (WE W.W σ)) : wpAny (model X.prog X.w) X.A (call (.ref f) us (ks.zip ws)) (EP X pins σ Q) X.xe s := by
  refine wpAny_call (codeAny_mono (F X.A X.stack s H us ws vs zs Q (WE W.W σ) (hr.at I) I.env0 r rz hl h) fun r s' hq => ?_)
  cases r with
  | error e => exact L2N.passAt tk σ pins H s e s' I hq
  | ok fl =>
    cases fl with
    | ret u => exact I.after hq
    | next => exact False.elim hq
    | brk => exact False.elim hq
    | cont => exact False.elim hq
theorem call_imp {σ : L2.St} {H : Hp} {Q : VK} (h : rE X.K X.mg W (fCall g fs) σ H Q) : rA X.K X.mg W fs σ H fun vs H1 => spG X.K X.mg g vs H1 Q (WE W.W σ) := by
  obtain ⟨m, st, ρ, rs, re, h⟩ := h
  exact ra_bind (k := fun ds st1 ρ => g ds st1) rs re h fun ds st1 m1 H1 v r1 re1 mn rv h1 => ⟨m1, st1, ds, r1, rv, h1⟩
/-- f(e, ..) -/
theorem je_call (c : DefOk hot X.prog X.w X.K X.mg X.base x [] k g) (hr : TempX hot k X) (tk : L2N.Takes X W.W) (hg : Gl X x) (ha : JA X W (e :: es) fs) (hdb : (x == ("__debug__" : Str)) = false := by decide)
    (he : starEach (e :: es) X.env = (false, eval e X.env) :: starEach es X.env := by rfl) (hpl : (backTo pos (starEach es X.env)).any (·.1) = false := by rfl) : JE X W (.Call (.Name x p) (e :: es) [] pos) (fCall g fs) := by
  obtain ⟨f, hm, hk, F⟩ := c.ex
  refine ⟨fun pins s σ H Q I h => ?_⟩
  refine wpAny_Call_Name_kw (ld_glob I hg hm ?_ hdb)
  refine PySem.W.callWith_K (h₀ := X.base) I.ok.mod.kin hk (thn (ha.run pos pins s σ H _ I (call_imp h)) fun us s1 hh => ?_) he hpl
  obtain ⟨vs, H1, I1, r, q⟩ := hh
  exact ⟨I1.kIn, run_rn (us := us) (ws := []) (zs := []) F hr tk I1 r .nil rfl (by rw [List.append_nil]; exact q)⟩
/-- f() -/
theorem je_call0 (c : DefOk hot X.prog X.w X.K X.mg X.base x [] k g) (hr : TempX hot k X) (tk : L2N.Takes X W.W) (hg : Gl X x) (hdb : (x == ("__debug__" : Str)) = false := by decide) : JE X W (.Call (.Name x p) [] [] pos) (fCall g fNil) := by
  obtain ⟨f, hm, hk, F⟩ := c.ex
  refine ⟨fun pins s σ H Q I h => ?_⟩
  refine wpAny_Call_Name_kw (ld_glob I hg hm ?_ hdb)
  obtain ⟨m, st, ρ, rs, re, h⟩ := h
  exact PySem.W.callWith_K0 I.kIn hk (run_rn (us := []) (ws := []) (vs := []) (zs := []) F hr tk I .nil .nil rfl ⟨m, st, [], rs, rfl, h⟩)
/-- keywords' values -/
abbrev JK (X : Cx) (W : Wc) (kws : List Keyword) (f : FA) : Prop := PK X kws (rA X.K X.mg W f)
theorem pk_imp {t t' : TA} (h : PK X kws t) (hi : ∀ σ H Q, t' σ H Q → t σ H Q) : PK X kws t' := ⟨fun pos pins s σ H Q I hw => h.run pos pins s σ H Q I (hi σ H Q hw)⟩
theorem jk_nil : JK X W [] fNil := pk_imp pk_nil fun σ H Q ⟨m, st, ρ, rs, re, h⟩ => h m H rs Mn.refl [] rfl
theorem jk_cons {nm : Option Str} {kpos : Pos} {fa : FE} (ha : JE X W e fa) (hr : JK X W kws fs) : JK X W (⟨nm, e, kpos⟩ :: kws) (fCons fa fs) :=
  pk_imp (pk_cons ha hr) fun σ H Q h => by
    obtain ⟨m, st, ρ, rs, re, h⟩ := h
    refine re_bind (k := fun x st1 ρ => (fs ρ st1).bind fun xs st2 => .ok (x :: xs) st2) rs re h fun x st1 m1 H1 v1 r1 re1 mn1 rv1 h1 => ?_
    refine ra_bind (k := fun xs st2 ρ => .ok (x :: xs) st2) r1 re1 h1 fun xs st2 m2 H2 v2 r2 re2 mn2 rv2 h2 => ?_
    exact h2 m2 H2 r2 Mn.refl _ ⟨_, _, rfl, mn2 _ _ rv1, rv2⟩
def fApp (a b : FA) : FA := fun ρ st => (a ρ st).bind fun xs st1 => (b ρ st1).bind fun ys st2 => .ok (xs ++ ys) st2
theorem callk_imp {σ : L2.St} {H : Hp} {Q : VK} (h : rE X.K X.mg W (fCall g (fApp fs fk)) σ H Q) : rA X.K X.mg W fs σ H fun vs H1 => rA X.K X.mg W fk σ H1 fun zs H2 => spG X.K X.mg g (vs ++ zs) H2 Q (WE W.W σ) := by
  obtain ⟨m, st, ρ, rs, re, h⟩ := h
  have e : fCall g (fApp fs fk) ρ st = (fs ρ st).bind fun xs st1 => (fk ρ st1).bind fun ys st2 => g (xs ++ ys) st2 := by
    unfold fCall fApp
    cases fs ρ st with
    | ok xs st1 => simp only [Out.bind_ok]; cases fk ρ st1 <;> rfl
    | exc _ _ => rfl
    | bad => rfl
  rw [e] at h
  refine ra_bind (k := fun xs st1 ρ => (fk ρ st1).bind fun ys st2 => g (xs ++ ys) st2) rs re h fun xs st1 m1 H1 v1 r1 re1 mn1 rv1 h1 => ?_
  refine ra_bind (k := fun ys st2 ρ => g (xs ++ ys) st2) r1 re1 h1 fun ys st2 m2 H2 v2 r2 re2 mn2 rv2 h2 => ?_
  exact ⟨m2, st2, _, r2, RVs.app (mn2.all rv1) rv2, h2⟩
theorem AP.zs_len {pins : List (Addr × Obj)} {σ : L2.St} {Q : List V → Hp → Prop} {us : List Value} {s : Shared} (h : AP X pins σ Q us s) : ∃ vs H, Inv X pins σ H s ∧ Vals vs us ∧ Q vs H := h
/-- f(e, .., k = v, ..) -/
theorem je_callK {nk : Nat} (c : DefOk hot X.prog X.w X.K X.mg X.base x ks k g) (hr : TempX hot k X) (tk : L2N.Takes X W.W) (hg : Gl X x) (ha : JA X W (e :: es) fs) (hkw : JK X W kws fk) (hfl : FLen fk ks.length)
    (hall : (backToKw pos (keywordEach kws X.env)).all (·.1.isSome) = true := by rfl) (hks : (backToKw pos (keywordEach kws X.env)).filterMap (·.1) = ks := by rfl)
    (hdb : (x == ("__debug__" : Str)) = false := by decide) (he : starEach (e :: es) X.env = (false, eval e X.env) :: starEach es X.env := by rfl)
    (hpl : ((backTo pos (starEach (e :: es) X.env)).any (·.1) || (backToKw pos (keywordEach kws X.env)).any (·.1.isNone)) = false := by rfl) : JE X W (.Call (.Name x p) (e :: es) kws pos) (fCall g (fApp fs fk)) := by
  obtain ⟨f, hm, hk, F⟩ := c.ex
  refine ⟨fun pins s σ H Q I h => ?_⟩
  refine wpAny_Call_Name_kw (ld_glob I hg hm ?_ hdb)
  refine PySem.W.callWith_KW (h₀ := X.base) I.ok.mod.kin hk hall (thn (ha.run pos pins s σ H _ I (callk_imp h)) fun us s1 hh => ?_) hpl he
  obtain ⟨vs, H1, I1, r, q⟩ := hh
  have q' : rA X.K X.mg W fk σ H1 fun zs H2 => zs.length = ks.length ∧ spG X.K X.mg g (vs ++ zs) H2 Q (WE W.W σ) := by
    obtain ⟨m, st, ρ, rs, re, q⟩ := q
    refine ⟨m, st, ρ, rs, re, ?_⟩
    cases e : fk ρ st with
    | ok ds st1 => rw [e] at q; exact fun m1 H1 r1 mn zs rv => ⟨by rw [← RVs.len rv]; exact hfl _ _ _ _ e, q m1 H1 r1 mn zs rv⟩
    | exc _ _ => rw [e] at q; exact q
    | bad => rw [e] at q; exact q
  refine thn (hkw.run pos pins s1 σ H1 _ I1 q') fun ws s2 hh => ?_
  obtain ⟨zs, H2, I2, rz, l, q2⟩ := hh
  refine ⟨I2.kIn, ?_⟩
  rw [hks]
  exact run_rn F hr tk I2 r rz (by rw [← rz.length]; exact l) q2
/-- f(k = v, ..) -/
theorem je_callK0 (c : DefOk hot X.prog X.w X.K X.mg X.base x ks k g) (hr : TempX hot k X) (tk : L2N.Takes X W.W) (hg : Gl X x) (hkw : JK X W kws fk) (hfl : FLen fk ks.length)
    (hall : (backToKw pos (keywordEach kws X.env)).all (·.1.isSome) = true := by rfl) (hks : (backToKw pos (keywordEach kws X.env)).filterMap (·.1) = ks := by rfl)
    (hdb : (x == ("__debug__" : Str)) = false := by decide)
    (hpl : ((backTo pos (starEach [] X.env)).any (·.1) || (backToKw pos (keywordEach kws X.env)).any (·.1.isNone)) = false := by rfl) : JE X W (.Call (.Name x p) [] kws pos) (fCall g fk) := by
  obtain ⟨f, hm, hk, F⟩ := c.ex
  refine ⟨fun pins s σ H Q I h => ?_⟩
  refine wpAny_Call_Name_kw (ld_glob I hg hm ?_ hdb)
  have q' : rA X.K X.mg W fk σ H fun zs H2 => zs.length = ks.length ∧ spG X.K X.mg g zs H2 Q (WE W.W σ) := by
    obtain ⟨m, st, ρ, rs, re, q⟩ := call_imp h
    refine ⟨m, st, ρ, rs, re, ?_⟩
    cases e : fk ρ st with
    | ok ds st1 => rw [e] at q; exact fun m1 H1 r1 mn zs rv => ⟨by rw [← RVs.len rv]; exact hfl _ _ _ _ e, q m1 H1 r1 mn zs rv⟩
    | exc _ _ => rw [e] at q; exact q
    | bad => rw [e] at q; exact q
  refine PySem.W.callWith_KW0 (h₀ := X.base) I.ok.mod.kin hk hall (thn (hkw.run pos pins s σ H _ I q') fun ws s2 hh => ?_) hpl
  obtain ⟨zs, H2, I2, rz, l, q2⟩ := hh
  refine ⟨I2.kIn, ?_⟩
  rw [hks]
  exact run_rn (us := []) (vs := []) F hr tk I2 .nil rz (by rw [← rz.length]; exact l) q2
end
/-! ### defs with a star parameter -/
section
theorem cxUpN {P : Program} {w : World} : CXUp (L2N.CX P w) := by
  intro outer s H s2 H2 E e s' un k os h
  obtain ⟨a, B, H', cls, d, rfl, fl, hok, ub, na, os', ag, hE⟩ := h
  refine ⟨a, B, H', cls, d, rfl, fl, hok, ⟨fun b o e n hb => ?_, fun b o e hb => ?_, fun b o e n => ?_, fun b o e hb => ?_, fun b xs e => ub.tups b xs (un.tups b xs e), fun b o xs e => ub.frzs b o xs (un.frzs b o xs e), fun b ps e => ?_⟩, na, os'.trans os, ag, hE⟩
  · exact ub.keep b o (k b o e) (un.free b o e n (by simp)) hb
  · exact ub.slot b o (k b o e) hb
  · exact ub.free b o (k b o e) (un.free b o e n (by simp))
  · exact ub.there b o (k b o e) hb
  · obtain ⟨m1, e1⟩ := un.tbls b ps e
    obtain ⟨m2, e2⟩ := ub.tbls b _ e1
    exact ⟨m1 ++ m2, by rw [e2, Array.append_assoc]⟩
variable {P : Program} {w : World} {K : PySem.W.Frag} {mg : Str → Option Value} {base : Heap} {x qual : Str} {params : Arguments} {body : List Stmt} {scope : Scope} {f : Addr} {fd : FuncData}
/-- n parameters, then the rest as a tuple -/
def withR (n : Nat) (g : List D → S → Out D) : List D → S → Out D := fun ds st => if n ≤ ds.length ∧ ds.length ≤ 1000 then g (ds.take n ++ [.tup (ds.drop n)]) st else .bad
theorem def_star {N ps : List Str} {pv : Str} {k : Nat} {g : FS} (F : FunD K x qual params body scope [] [] f fd) (Sc : FnScope N (ps ++ [pv]) scope)
    (hbind : ∀ (kV doc pm : Value) (an : Option Addr) (cdv ct : Value) (us rest : List Value), us.length = ps.length → bindArgs (PySem.W.fnOf x qual params body scope .none kV doc pm an cdv ct) ⟨us ++ rest, []⟩ = (newTuple rest >>= fun t => pure (ps.zip us ++ [(pv, t)])))
    (hb : ∀ (cdv : Value) (A : Around) (outer : List PySem.Env) (s : Shared) (H : Hp) (E : XK), Room k (A.deeper (envOfC qual scope s.heap.objs.size f cdv)) →
      JB (cxOf (L2N.CX P w) P w K mg base N qual scope f cdv A outer s H E) (wcE E) body g) :
    Rn false P w K mg base (k + 1) f [] (withR ps.length (arN (ps.length + 1) (den N.length g))) := by
  obtain ⟨oc, od, dV, kV, doc, pm, an, cdv, ct, osl, rfl, lk, hcd, hD, _⟩ := F.ex
  have edv : dV = .none := by
    rcases hD with ⟨_, e⟩ | ⟨e, _⟩
    · exact e
    · exact absurd rfl e
  subst edv
  have R := fn_star (sp := spG K mg (arN (ps.length + 1) (den N.length g))) (k := k) lk hcd Sc (cxUpN (P := P) (w := w)) (fun us rest hl => hbind kV doc pm an cdv ct us rest hl) fun A outer s H vs Q E hr h => ⟨_, hb cdv A outer s H E hr, body_reads h⟩
  intro A outer s H us ws vs zs Q E t e0 r rz hl hs
  have ez : ws = [] := List.length_eq_zero_iff.mp hl
  subst ez
  cases rz
  rw [List.append_nil] at hs
  obtain ⟨m, st, ds, rs, rv, hm⟩ := hs
  unfold withR at hm
  by_cases hc : ps.length ≤ ds.length ∧ ds.length ≤ 1000
  · rw [if_pos hc] at hm
    have l := RVs.len rv
    refine R A outer s H us vs Q E t e0 r ⟨vs.take ps.length, vs.drop ps.length, (List.take_append_drop _ _).symm, by rw [List.length_take]; omega, ?_, fun q hq => ?_⟩
    · rw [List.length_drop]
      exact Nat.le_trans (Nat.sub_le _ _) (Nat.le_of_lt (small1000 (by omega)))
    · obtain ⟨r2, mn⟩ := rs.laid (o := .tup (vs.drop ps.length)) hq
      have rt : RV K m st.length (upd H q (.tup (vs.drop ps.length))) (.tup (ds.drop ps.length)) (.ref q) := ⟨q, _, rfl, SqT.of upd_same, RVs.drop _ (mn.all rv)⟩
      exact ⟨m, st, _, r2, RVs.app (RVs.take _ (mn.all rv)) (RVs.one rt), Meet.later hm mn⟩
  · rw [if_neg hc] at hm; exact hm.elim
end
end MP

set_option Elab.async false
set_option linter.all false
set_option maxRecDepth 100000
set_option maxHeartbeats 4000000
/-! MPX1: an own exception class over ValueError whose __init__ says super().__init__('text') and stores its arguments: what is
to be seen of it in the written part (a Bool), and what a call of the class makes. -/
namespace MP
open PySem PySem.W PySem.Calls PyProof.Rows PySem.HandSPX

/-! ### what is to be seen -/
def ini : List Str → List Stmt → Bool
  | [], [] => true
  | f :: r, .Assign [.Attribute (.Name s _) g _] (.Name h _) _ :: b => s == ("self" : Str) && (g == f && (h == f && ini r b))
  | _, _ => false
def iniB (fs : List Str) : List Stmt → Bool
  | .Expr (.Call (.Attribute (.Call (.Name s _) [] [] _) i p) [.Constant (.str _) _ _] [] p') _ :: b => s == ("super" : Str) && (i == ("__init__" : Str) && (p.endLine == p'.line && ini fs b))
  | _ => false
def iniS (fs : List Str) (sc : Scope) : Bool :=
  decide (sc.kind = .function) && (!sc.isGenerator && (!sc.isCoroutine && ((("self" : Str) :: fs).all (fun x => decide (sc.names.lookup x = some .local)) &&
    (decide (sc.names.lookup ("super" : Str) = some .globalImplicit) && (decide (sc.names.lookup ("__class__" : Str) = some .free) && sc.names.all fun x => decide (x.2 ≠ .cell))))))
def iniP (fs : List Str) (a : Arguments) : Bool := match a with
  | ⟨[], as, none, [], [], none, []⟩ => decide (as.map (·.arg) = ("self" : Str) :: fs)
  | _ => false
def iniC (K : Frag) (file : Str) (cdv : Value) (q : Str) : Bool := codeIn K cdv q && (match cdv with
  | .ref c => (match K.lookup c with
    | some ⟨_, _, .fields vs, _⟩ => (match vs[2]? with
      | some (Value.str x _) => x == file
      | _ => false)
    | _ => false)
  | _ => false)
/-- the function at fI is such an __init__, its cell holds C -/
def iniF (K : Frag) (file : Str) (C fI : Addr) (fs : List Str) : Bool := match K.lookup fI with
  | some ⟨_, _, .func fd, _⟩ => (match fd.body, fd.closure, fd.defaults with
    | .stmts b, [(x, cc)], .none => x == ("__class__" : Str) && (decide (fd.globals = mainGlobals) && (decide (fd.builtins = builtinsNs) && (iniB fs b && (iniS fs fd.scope && (iniP fs fd.params && (iniC K file fd.code fd.qualname &&
        (match K.lookup cc with
          | some ⟨_, _, .cell (some (.ref C')), _⟩ => decide (C' = C)
          | _ => false)))))))
    | _, _, _ => false)
  | _ => false
def exS (o : Option (Option Value)) (w : Option Value) : Bool := decide (o = some w)
/-- such a class at C -/
def excX (K : Frag) (file : Str) (C fI : Addr) (fs : List Str) : Bool :=
  (match K.lookup C with
    | some ⟨.type "type", _, .cls cd, sl⟩ => (match cd.mro, sl.toList with
      | .ref C' :: bm, [_, _, _, _, some (.builtin n), _] => decide (C' = C) && (n == "ValueError.__new__" && (!cd.hasDel && (cd.hasDict && (refsVE bm && exS (alongIn K "__init__" bm) (some (.builtin "ValueError.__init__"))))))
      | _, _ => false)
    | _ => false) &&
  (exS (findIn K (.ref C) "__setattr__") (some (.builtin "object.__setattr__")) && (exS (findIn K (.ref C) "__getattribute__") (some (.builtin "BaseException.__getattribute__")) && (exS (findIn K (.ref C) "__getattr__") none &&
    (exS (findIn K (.ref C) "__init__") (some (.ref fI)) && (decide (typeIn K (.ref fI) = some (.type "function")) && (keepIn K (.ref C) && (decide (subIn K (.ref C) (.type "BaseException") = some true) &&
      (decide (typeIn K (.ref C) = some (.type "type")) && (exS (nsIn K cStatics "thirdparty.any") none && (fs.all (fun f => exS (findIn K (.ref C) f) none) && iniF K file C fI fs))))))))))

structure ExC (K : Frag) (file : Str) (C fI : Addr) (fs : List Str) : Prop where
  cls : ∃ nm q N bs bm sn sub ab col dd k0 k1 k2 k3 k5, K.lookup C = some (excClassObj nm q C N bs bm true sn sub ab col dd k0 k1 k2 k3 k5 "ValueError.__new__") ∧ refsVE bm = true ∧ alongIn K "__init__" bm = some (some (.builtin "ValueError.__init__"))
  sa : findIn K (.ref C) "__setattr__" = some (some (.builtin "object.__setattr__"))
  ga : findIn K (.ref C) "__getattribute__" = some (some (.builtin "BaseException.__getattribute__"))
  gg : findIn K (.ref C) "__getattr__" = some none
  iC : findIn K (.ref C) "__init__" = some (some (.ref fI))
  tC : typeIn K (.ref fI) = some (.type "function")
  kC : keepIn K (.ref C) = true
  exC : subIn K (.ref C) (.type "BaseException") = some true
  tyC : typeIn K (.ref C) = some (.type "type")
  opq : nsIn K cStatics "thirdparty.any" = some none
  noF : ∀ f ∈ fs, findIn K (.ref C) f = some none
  fn : iniF K file C fI fs = true
theorem exS_ok {o : Option (Option Value)} {w : Option Value} (h : exS o w = true) : o = some w := of_decide_eq_true h
theorem aa {a b : Bool} (h : (a && b) = true) : a = true ∧ b = true := Bool.and_eq_true_iff.mp h
theorem excX_ok {K : Frag} {file : Str} {C fI : Addr} {fs : List Str} (h : excX K file C fI fs = true) : ExC K file C fI fs := by
  unfold excX at h
  obtain ⟨h0, h⟩ := aa h
  obtain ⟨h1, h⟩ := aa h
  obtain ⟨h2, h⟩ := aa h
  obtain ⟨h3, h⟩ := aa h
  obtain ⟨h4, h⟩ := aa h
  obtain ⟨h5, h⟩ := aa h
  obtain ⟨h6, h⟩ := aa h
  obtain ⟨h7, h⟩ := aa h
  obtain ⟨h8, h⟩ := aa h
  obtain ⟨h9, h⟩ := aa h
  obtain ⟨h10, h11⟩ := aa h
  refine ⟨?_, exS_ok h1, exS_ok h2, exS_ok h3, exS_ok h4, of_decide_eq_true h5, h6, of_decide_eq_true h7, of_decide_eq_true h8, exS_ok h9, fun f hf => exS_ok (List.all_eq_true.mp h10 f hf), h11⟩
  split at h0
  · rename_i dd cd sl ho
    split at h0
    · rename_i C' bm k0 k1 k2 k3 n k5 hm hs
      obtain ⟨g0, h0⟩ := aa h0
      obtain ⟨g1, h0⟩ := aa h0
      obtain ⟨g2, h0⟩ := aa h0
      obtain ⟨g3, h0⟩ := aa h0
      obtain ⟨g4, g5⟩ := aa h0
      have e0 : C' = C := of_decide_eq_true g0
      have e1 : n = "ValueError.__new__" := beq_iff_eq.mp g1
      subst e0 e1
      obtain ⟨nm, bs, mro, ns, qn, hd, sn, sub, ab, col, del⟩ := cd
      dsimp only at hm g2 g3
      subst hm g3
      have e2 : del = false := by cases del <;> simp at g2 ⊢
      subst e2
      have hsl : sl = #[k0, k1, k2, k3, some (.builtin "ValueError.__new__"), k5] := by
        obtain ⟨l⟩ := sl
        simp only at hs
        rw [hs]
      subst hsl
      exact ⟨nm, qn, ns, bs, bm, sn, sub, ab, col, dd, k0, k1, k2, k3, k5, ho, g4, exS_ok g5⟩
    · cases h0
  · cases h0

/-! ### super().__init__('text') -/
section
variable {prog : Program} {w : World} {A : Around} {E : Value → Shared → Prop} {h : Heap} {g : Array GenState} {d : Drawn} {t : Nat} {os : OsState}
variable {nm q : Str} {C N : Addr} {bs bm : List Value} {hdct : Bool} {sn : List Str} {sub : List Value} {ab : Bool} {col : Option Bool} {dd : Option Addr} {k0 k1 k2 k3 k5 : Option Value}
theorem call_mw {u e t0 : Addr} {rest : List Value} {Q : Value → Shared → Prop}
    (hC : h.get? C = some (excClassObj nm q C N bs bm hdct sn sub ab col dd k0 k1 k2 k3 k5 "ValueError.__new__")) (he : h.get? e = some (excO C t0)) (hu : h.get? u = some (kxs_mw "ValueError.__init__" e)) (hrest : rest.length ≤ sizeLine)
    (hq : ∀ h' t1, (∀ b o, b ≠ e → h.get? b = some o → h'.get? b = some o) → h'.get? e = some (excO C t1) → Q .none ⟨h', g, d, t, os⟩) :
    wpAny (model prog w) A (call (.ref u) rest) Q E ⟨h, g, d, t, os⟩ := by
  refine wpAny_call (codeAny_of_tree ?_)
  show wpAny _ A.in1 (callAny (.ref u) ⟨rest, []⟩) _ _ _
  simp only [callAny]
  refine wpAny_bind (wpAny_load hu ?_)
  simp only [kxs_mw, show (Value.type "method-wrapper" == Value.type "method" || Value.type "method-wrapper" == Value.type "builtin_function_or_method" || Value.type "method-wrapper" == Value.type "method-wrapper") = true by decide, if_true]
  refine W.KFB.if_so (by decide) ?_
  refine wpAny_bind (ESX.check_bound F.excBase_ValueError hC he rfl ?_)
  refine wpAny_bind (wpAny_pure (wpAny_pure ?_))
  refine ⟨Code.quiet_builtin _ (by decide +kernel), codeAny_builtin F.excBase_ValueError.initEntry ?_⟩
  rw [Around.under_plainId F.excBase_ValueError.init.plain _]
  wp_walk
  refine hq _ h.objs.size (fun b o hb ho => ?_) ?_
  · rw [Heap.get?_update_other _ _ (Ne.symm hb)]
    exact Heap.get?_push_of_some _ ho
  · rw [Heap.get?_update_self _ (Heap.get?_push_of_some _ he) rfl]
    rfl
end

theorem iniP_ok {fs : List Str} {a : Arguments} (h : iniP fs a = true) : ∃ as, a = ⟨[], as, none, [], [], none, []⟩ ∧ as.map (·.arg) = ("self" : Str) :: fs := by
  unfold iniP at h
  split at h
  · exact ⟨_, rfl, of_decide_eq_true h⟩
  · cases h
theorem iniC_ok {K : Frag} {file : Str} {cdv : Value} {q : Str} (h : iniC K file cdv q = true) :
    codeIn K cdv q = true ∧ ∃ c oc od vs sl tf, cdv = .ref c ∧ K.lookup c = some ⟨oc, od, .fields vs, sl⟩ ∧ vs[2]? = some (.str file tf) := by
  obtain ⟨h1, h2⟩ := aa h
  refine ⟨h1, ?_⟩
  cases cdv with
  | ref c =>
    simp only at h2
    cases e : K.lookup c with
    | none => rw [e] at h2; cases h2
    | some ob =>
      obtain ⟨oc, od, dt, sl⟩ := ob
      rw [e] at h2
      cases dt with
      | fields vs =>
        simp only at h2
        cases e2 : vs[2]? with
        | none => rw [e2] at h2; cases h2
        | some v =>
          rw [e2] at h2
          cases v with
          | str x tf =>
            have e3 : x = file := beq_iff_eq.mp h2
            subst e3
            exact ⟨c, oc, od, vs, sl, tf, rfl, e, e2⟩
          | _ => cases h2
      | _ => cases h2
  | _ => cases h2
/-- the statements that store -/
def mOf : List (Str × Value) → Str → Option Value
  | [] => fun _ => none
  | (f, v) :: r => fun y => if y = f then some v else mOf r y
theorem mOf_in : ∀ l : List (Str × Value), Within (mOf l) (l.map (·.1))
  | [] => Within.nil
  | (f, v) :: r => Within.cons f v (mOf_in r)
/-- what __init__ leaves of a fresh exception at x -/
structure InitEnd (h h' : Heap) (x C dx t1 : Addr) (l : List (Str × Value)) : Prop where
  keep : ∀ b o, b ≠ x → h.get? b = some o → h'.get? b = some o
  obj : h'.get? x = some { cls := .ref C, dict := some dx, data := .fields #[.ref t1, .none, .none, .none, .bool false, .none] }
  dbig : h.objs.size ≤ dx
  dne : dx ≠ x
  ns : h'.Ns1 dx (mOf l)
section
variable {prog : Program} {w : World} {A : Around} {E : Value → Shared → Prop} {R : Flow → Shared → Prop} {K : Frag} {file : Str} {C fI x L : Addr} {fs : List Str} {env : Env} {m : Str → Option Value}
theorem ldF {M : Model} {s : Shared} {pos : Pos} {y : Str} {v : Value} {Q : Value → Shared → Prop} (hk : env.scope.kind = .function) (hl : env.kindOf y = some .local) (hn : s.heap.Ns env.locals m) (hv : m y = some v) (hd : (y == ("__debug__" : Str)) = false) (h : Q v s) :
    wpAny M A (eval (.Name y pos) env) Q E s := wpAny_Name (wpAny_loadName_local hk hl hn hv h) hd
theorem ns_but {h h' : Heap} {a L : Addr} {m : Str → Option Value} (hn : h.Ns L m) (ha : L ≠ a) (k : ∀ b o, b ≠ a → h.get? b = some o → h'.get? b = some o) : h'.Ns L m := by
  obtain ⟨o, es, ep, ho, r⟩ := hn
  exact ⟨o, es, ep, k _ _ ha ho, r⟩
theorem kept_but {h h' : Heap} {x : Addr} (X : K.In h) (hx : K.lookup x = none) (k : ∀ b o, b ≠ x → h.get? b = some o → h'.get? b = some o) : K.In h' := fun a o e =>
  k a o (fun z => by rw [z, hx] at e; cases e) (X a o e)
/-- the further fields -/
theorem stores (T : ExC K file C fI fs) (hk : env.scope.kind = .function) (hself : env.kindOf "self" = some .local) (hms : m "self" = some (.ref x)) (hxL : x ≠ env.locals) (hnx : K.lookup x = none) :
    ∀ (r : List Str) (b : List Stmt) (vs : List Value) (l : List (Str × Value)) (s : Shared) (dx : Addr) (t1 : Addr),
      ini r b = true → (∀ f ∈ r, f ∈ fs ∧ env.kindOf f = some .local ∧ (f == ("__debug__" : Str)) = false) → r.map m = vs.map some → l.length + r.length ≤ 900 → s.heap.Ns env.locals m → K.In s.heap →
      s.heap.get? x = some { cls := .ref C, dict := some dx, data := .fields #[.ref t1, .none, .none, .none, .bool false, .none] } → dx ≠ x → dx ≠ env.locals → K.lookup dx = none → s.heap.Ns1 dx (mOf l) →
      (∀ h' tk, (∀ b o, b ≠ dx → s.heap.get? b = some o → h'.get? b = some o) → h'.Ns1 dx (mOf ((r.zip vs).reverse ++ l)) → R .next { s with heap := h', toks := tk }) →
      wpAny (model prog w) A (execs b env) R E s
  | [], [], vs, l, s, dx, t1, hi, _, hv, _, _, _, _, _, _, _, hd, hq => wpAny_execs_nil (hq s.heap s.toks (fun _ _ _ e => e) (by simpa using hd))
  | [], _ :: _, _, _, _, _, _, hi, _, _, _, _, _, _, _, _, _, _, _ => by simp [ini] at hi
  | f :: r, [], _, _, _, _, _, hi, _, _, _, _, _, _, _, _, _, _, _ => by simp [ini] at hi
  | f :: r, st :: b, [], _, _, _, _, _, _, hv, _, _, _, _, _, _, _, _, _ => by simp at hv
  | f :: r, st :: b, v :: vs, l, s, dx, t1, hi, hf, hv, hl, hn, X, hx, dne, dnl, hdx, hd, hq => by
    unfold ini at hi
    split at hi
    · rename_i e1 _
      cases e1
    · rename_i f0 r0 s0 p0 g0 p1 h0 p2 p3 b0 e1 e2
      cases e1
      cases e2
      obtain ⟨q1, i1⟩ := aa hi
      obtain ⟨q2, i2⟩ := aa i1
      obtain ⟨q3, i3⟩ := aa i2
      have q1 := beq_iff_eq.mp q1
      have q2 := beq_iff_eq.mp q2
      have q3 := beq_iff_eq.mp q3
      subst q1 q2 q3
      obtain ⟨nm, q, N, bs, bm, sn, sub, ab, col, dd, k0, k1, k2, k3, k5, hC, hbm, _⟩ := T.cls
      have hcl : clsIn K C = some { name := nm, bases := bs, mro := .ref C :: bm, ns := N, qualname := q, hasDict := true, slotNames := sn, subclasses := sub, abstract := ab, collection := col, hasDel := false } := by unfold clsIn; rw [hC] <;> rfl
      obtain ⟨hf1, hf2⟩ := List.forall_mem_cons.mp hf
      rw [List.map_cons, List.map_cons] at hv
      obtain ⟨hv1, hv2⟩ := List.cons.inj hv
      refine wpAny_execs_cons (plainObj_wpAny_Assign_Attribute (ldF hk hf1.2.1 hn hv1 hf1.2.2 (ldF hk hself hn hms (by decide) ?_)))
      obtain ⟨oD, _, _, hoD, _, _⟩ := hd.count (mOf_in l)
      refine set_plain X (ox := { cls := .ref C, dict := some dx, data := .fields #[.ref t1, .none, .none, .none, .bool false, .none] }) (od := some oD) ⟨hx, rfl, rfl, hoD⟩ T.sa ?_
      obtain ⟨hp, g, d, t, os⟩ := s
      refine OEX.osa_old X hx hd (mOf_in l) (by rw [List.length_map]; simp only [List.length_cons] at hl; omega) hcl (show refsVE (.ref C :: bm) = true from hbm) rfl (T.noF _ hf1.1) (fun h' tk' k hn' => ?_)
      refine stores T hk hself hms hxL hnx _ _ vs ((_, v) :: l) ⟨h', g, d, tk', os⟩ dx t1 i3 hf2 hv2 (by simp only [List.length_cons] at hl ⊢; omega) (ns_but hn (Ne.symm dnl) k) (kept_but X hdx k) (k _ _ (Ne.symm dne) hx) dne dnl hdx hn' (fun h2 tk2 k2 hn2 => ?_)
      refine hq h2 tk2 (fun b o hb e => k2 b o hb (k b o hb e)) ?_
      rw [List.zip_cons_cons, List.reverse_cons, List.append_assoc]
      exact hn2
    · cases hi
end

section
variable {prog : Program} {w : World} {A : Around} {E : Value → Shared → Prop} {R : Flow → Shared → Prop} {K : Frag} {file : Str} {C fI x L : Addr} {fs : List Str} {env : Env} {m : Str → Option Value}
theorem lookup_big {h : Heap} {a : Addr} (X : K.In h) (ha : h.objs.size ≤ a) : K.lookup a = none := by
  cases e : K.lookup a with
  | none => rfl
  | some o => exact absurd (Heap.lt_size (X _ _ e)) (Nat.not_lt.mpr ha)
/-- the first field -/
theorem stores0 (T : ExC K file C fI fs) (hk : env.scope.kind = .function) (hself : env.kindOf "self" = some .local) (hms : m "self" = some (.ref x)) (hxL : x ≠ env.locals) (hnx : K.lookup x = none)
    {r : List Str} {b : List Stmt} {vs : List Value} {s : Shared} {t1 : Addr} (hne : r ≠ []) (hi : ini r b = true) (hf : ∀ f ∈ r, f ∈ fs ∧ env.kindOf f = some .local ∧ (f == ("__debug__" : Str)) = false) (hv : r.map m = vs.map some) (hl : r.length ≤ 900)
    (hn : s.heap.Ns env.locals m) (X : K.In s.heap) (hx : s.heap.get? x = some (excO C t1))
    (hq : ∀ h' tk dx, (∀ b o, b ≠ x → s.heap.get? b = some o → h'.get? b = some o) → h'.get? x = some { cls := .ref C, dict := some dx, data := .fields #[.ref t1, .none, .none, .none, .bool false, .none] } → s.heap.objs.size ≤ dx → dx ≠ x →
      h'.Ns1 dx (mOf (r.zip vs).reverse) → R .next { s with heap := h', toks := tk }) :
    wpAny (model prog w) A (execs b env) R E s := by
  cases r with
  | nil => exact absurd rfl hne
  | cons f r =>
    cases vs with
    | nil => simp at hv
    | cons v vs =>
      unfold ini at hi
      split at hi
      · rename_i e1
        cases e1
      · rename_i f0 r0 s0 p0 g0 p1 h0 p2 p3 b0 e1
        cases e1
        obtain ⟨q1, i1⟩ := aa hi
        obtain ⟨q2, i2⟩ := aa i1
        obtain ⟨q3, i3⟩ := aa i2
        have q1 := beq_iff_eq.mp q1
        have q2 := beq_iff_eq.mp q2
        have q3 := beq_iff_eq.mp q3
        subst q1 q2 q3
        obtain ⟨nm, q, N, bs, bm, sn, sub, ab, col, dd, k0, k1, k2, k3, k5, hC, hbm, _⟩ := T.cls
        have hcl : clsIn K C = some { name := nm, bases := bs, mro := .ref C :: bm, ns := N, qualname := q, hasDict := true, slotNames := sn, subclasses := sub, abstract := ab, collection := col, hasDel := false } := by unfold clsIn; rw [hC] <;> rfl
        obtain ⟨hf1, hf2⟩ := List.forall_mem_cons.mp hf
        rw [List.map_cons, List.map_cons] at hv
        obtain ⟨hv1, hv2⟩ := List.cons.inj hv
        refine wpAny_execs_cons (plainObj_wpAny_Assign_Attribute (ldF hk hf1.2.1 hn hv1 hf1.2.2 (ldF hk hself hn hms (by decide) ?_)))
        refine set_plain X (ox := excO C t1) (od := none) ⟨hx, rfl, rfl, trivial⟩ T.sa ?_
        obtain ⟨hp, g, d, t, os⟩ := s
        refine exc_osa X hx hcl (show refsVE (.ref C :: bm) = true from hbm) rfl (T.noF _ hf1.1) (fun h' tk' dx k dn dne hx' hn' => ?_)
        have hLlt : env.locals < hp.objs.size := by
          obtain ⟨o, es, ep, ho, _⟩ := hn
          exact Heap.lt_size ho
        have dnl : dx ≠ env.locals := Nat.ne_of_gt (Nat.lt_of_lt_of_le hLlt dn)
        refine stores T hk hself hms hxL hnx _ _ vs [(_, v)] ⟨h', g, d, tk', os⟩ dx t1 i3 hf2 hv2 (by simp only [List.length_cons, List.length_nil] at hl ⊢; omega) (ns_but hn (Ne.symm hxL) k) (kept_but X hnx k) hx' dne dnl (lookup_big X dn) hn' (fun h2 tk2 k2 hn2 => ?_)
        refine hq h2 tk2 dx (fun b o hb e => k2 b o (fun z => ?_) (k b o hb e)) (k2 _ _ (Ne.symm dne) hx') dn dne ?_
        · rw [z] at e
          exact absurd (Heap.lt_size e) (Nat.not_lt.mpr dn)
        · rw [List.zip_cons_cons, List.reverse_cons]
          exact hn2
      · cases hi
end
section
variable {K : Frag} {file : Str} {C fI : Addr}
theorem iniF_ok {fs : List Str} (h : iniF K file C fI fs = true) : ∃ oc od osl nmF qual ps b sc kV doc pm an cdv ct cc cl cld csl,
    K.lookup fI = some ⟨oc, od, .func (ksFn nmF qual ps b sc .none kV doc pm an cdv ct cc), osl⟩ ∧ iniB fs b = true ∧ iniS fs sc = true ∧ iniP fs ps = true ∧ iniC K file cdv qual = true ∧ K.lookup cc = some ⟨cl, cld, .cell (some (.ref C)), csl⟩ := by
  unfold iniF at h
  split at h
  · rename_i oc od fd osl ho
    split at h
    · rename_i b x cc e1 e2 e3
      obtain ⟨h0, h⟩ := aa h
      obtain ⟨h1, h⟩ := aa h
      obtain ⟨h2, h⟩ := aa h
      obtain ⟨h3, h⟩ := aa h
      obtain ⟨h4, h⟩ := aa h
      obtain ⟨h5, h⟩ := aa h
      obtain ⟨h6, h⟩ := aa h
      split at h
      · rename_i cl cld C' csl hc
        have e : C' = C := of_decide_eq_true h
        subst e
        obtain ⟨n1, n2, n3, n4, n5, n6, n7, n8, n9, n10, n11, n12, n13, n14, n15⟩ := fd
        dsimp only at e1 e2 e3 h1 h2 h3 h4 h5 h6
        have e0 : x = ("__class__" : Str) := beq_iff_eq.mp h0
        have e6 : n6 = mainGlobals := of_decide_eq_true h1
        have e15 : n15 = builtinsNs := of_decide_eq_true h2
        subst e0 e1 e2 e3 e6 e15
        exact ⟨oc, od, osl, n1, n2, n3, b, n5, n9, n10, n11, n12, n13, n14, cc, cl, cld, csl, ho, h3, h4, h5, h6, hc⟩
      · cases h
    · cases h
  · cases h
theorem iniS_ok {fs : List Str} {sc : Scope} (h : iniS fs sc = true) : sc.kind = .function ∧ sc.isGenerator = false ∧ sc.isCoroutine = false ∧ (∀ x ∈ (("self" : Str) :: fs), sc.names.lookup x = some .local) ∧
    sc.names.lookup ("super" : Str) = some .globalImplicit ∧ sc.names.lookup ("__class__" : Str) = some .free ∧ ∀ x ∈ sc.names, x.2 ≠ .cell := by
  obtain ⟨h0, h⟩ := aa h
  obtain ⟨h1, h⟩ := aa h
  obtain ⟨h2, h⟩ := aa h
  obtain ⟨h3, h⟩ := aa h
  obtain ⟨h4, h⟩ := aa h
  obtain ⟨h5, h⟩ := aa h
  exact ⟨of_decide_eq_true h0, by simpa using h1, by simpa using h2, fun x hx => of_decide_eq_true (List.all_eq_true.mp h3 x hx), of_decide_eq_true h4, of_decide_eq_true h5, fun x hx => of_decide_eq_true (List.all_eq_true.mp h x hx)⟩
theorem iniB_ok {fs : List Str} {b : List Stmt} (h : iniB fs b = true) : ∃ p0 p1 p2 msg j p3 p4 p5 b', b = .Expr (.Call (.Attribute (.Call (.Name ("super" : Str) p0) [] [] p1) ("__init__" : Str) p2) [.Constant (.str msg) j p3] [] p4) p5 :: b' ∧ (p2.endLine == p4.line) = true ∧ ini fs b' = true := by
  unfold iniB at h
  split at h
  · rename_i s0 p0 p1 i0 p2 msg j p3 p4 p5 b'
    obtain ⟨q1, h1⟩ := aa h
    obtain ⟨q2, h2⟩ := aa h1
    obtain ⟨q3, h3⟩ := aa h2
    have q1 := beq_iff_eq.mp q1
    have q2 := beq_iff_eq.mp q2
    subst q1 q2
    exact ⟨p0, p1, p2, msg, j, p3, p4, p5, b', rfl, q3, h3⟩
  · cases h
theorem super_eq {p0 p1 p2 p3 p4 : Pos} {msg : Str} {j : Nat} {env : Env} (hp : (p2.endLine == p4.line) = true) :
    eval (.Call (.Attribute (.Call (.Name ("super" : Str) p0) [] [] p1) ("__init__" : Str) p2) [.Constant (.str msg) j p3] [] p4) env = (do
      let ov ← attributeBase (.Call (.Name ("super" : Str) p0) [] [] p1) ("__init__" : Str) env (eval (.Call (.Name ("super" : Str) p0) [] [] p1) env)
      standAt p2.atName
      let (f, first) ← holding [ov] (getMethod ov ("__init__" : Str) (do return (← importBound (.Call (.Name ("super" : Str) p0) [] [] p1) env).getD true))
      callWith p4 f first (backTo p4 (starEach [.Constant (.str msg) j p3] env)) []) := by
  have e : methodCallPos true (.Call (.Name ("super" : Str) p0) [] [] p1) env p2 p4 = pure p4 := by
    unfold methodCallPos
    rw [hp]
    rfl
  show (do
      let ov ← attributeBase (.Call (.Name ("super" : Str) p0) [] [] p1) ("__init__" : Str) env (eval (.Call (.Name ("super" : Str) p0) [] [] p1) env)
      standAt p2.atName
      (do
        let (f, first) ← holding [ov] (calleeOf true (.Call (.Name ("super" : Str) p0) [] [] p1) env ov ("__init__" : Str))
        let callPos ← methodCallPos true (.Call (.Name ("super" : Str) p0) [] [] p1) env p2 p4
        callWith callPos f first (backTo p4 (starEach [.Constant (.str msg) j p3] env)) [])) = _
  rw [e]
  rfl
/-- how the arguments are bound, for one and for two fields -/
def Fields (fs : List Str) : Prop := ∀ (s : Shared) (as : List Arg) (nmF qual : Str) (b : List Stmt) (sc : Scope) (kV doc pm : Value) (an : Option Addr) (cdv ct : Value) (cc : Addr) (us : List Value),
  as.map (·.arg) = ("self" : Str) :: fs → us.length = fs.length + 1 → BindsTo s (ksFn nmF qual ⟨[], as, none, [], [], none, []⟩ b sc .none kV doc pm an cdv ct cc) ⟨us, []⟩ ((("self" : Str) :: fs).zip us)
def Bound1 (f : Str) : Prop := ∀ (p0 p1 : Pos) (a0 a1 : Option Expr) (nmF qual : Str) (b : List Stmt) (sc : Scope) (kV doc pm : Value) (an : Option Addr) (cdv ct : Value) (cc : Addr) (u v : Value),
  bindArgs (ksFn nmF qual ⟨[], [⟨"self", a0, p0⟩, ⟨f, a1, p1⟩], none, [], [], none, []⟩ b sc .none kV doc pm an cdv ct cc) ⟨[u, v], []⟩ = pure [(("self" : Str), u), (f, v)]
def Bound2 (f g : Str) : Prop := ∀ (p0 p1 p2 : Pos) (a0 a1 a2 : Option Expr) (nmF qual : Str) (b : List Stmt) (sc : Scope) (kV doc pm : Value) (an : Option Addr) (cdv ct : Value) (cc : Addr) (u v w : Value),
  bindArgs (ksFn nmF qual ⟨[], [⟨"self", a0, p0⟩, ⟨f, a1, p1⟩, ⟨g, a2, p2⟩], none, [], [], none, []⟩ b sc .none kV doc pm an cdv ct cc) ⟨[u, v, w], []⟩ = pure [(("self" : Str), u), (f, v), (g, w)]
theorem fields1 {f : Str} (hb : Bound1 f) : Fields [f] := by
  intro s as nmF qual b sc kV doc pm an cdv ct cc us h hu
  rcases as with _ | ⟨⟨n0, a0, p0⟩, _ | ⟨⟨n1, a1, p1⟩, _ | ⟨_, _⟩⟩⟩ <;> simp at h
  rcases us with _ | ⟨u, _ | ⟨v, _ | ⟨_, _⟩⟩⟩ <;> simp at hu
  obtain ⟨h0, h1⟩ := h
  subst h0 h1
  exact BindsTo.of_eq (hb _ _ _ _ _ _ _ _ _ _ _ _ _ _ _ _ _)
theorem fields2 {f g : Str} (hb : Bound2 f g) : Fields [f, g] := by
  intro s as nmF qual b sc kV doc pm an cdv ct cc us h hu
  rcases as with _ | ⟨⟨n0, a0, p0⟩, _ | ⟨⟨n1, a1, p1⟩, _ | ⟨⟨n2, a2, p2⟩, _ | ⟨_, _⟩⟩⟩⟩ <;> simp at h
  rcases us with _ | ⟨u, _ | ⟨v, _ | ⟨w, _ | ⟨_, _⟩⟩⟩⟩ <;> simp at hu
  obtain ⟨h0, h1, h2⟩ := h
  subst h0 h1 h2
  exact BindsTo.of_eq (hb _ _ _ _ _ _ _ _ _ _ _ _ _ _ _ _ _ _ _ _)
theorem bound_value : Bound1 "value" := fun _ _ _ _ _ _ _ _ _ _ _ _ _ _ _ _ _ => by first | rfl | with_unfolding_all rfl
theorem bound_lowhigh : Bound2 "low" "high" := fun _ _ _ _ _ _ _ _ _ _ _ _ _ _ _ _ _ _ _ _ => by first | rfl | with_unfolding_all rfl
theorem lookup_zip : ∀ (xs : List Str) (us : List Value), xs.Nodup → xs.length = us.length → xs.map (fun y => (xs.zip us).reverse.lookup y) = us.map some
  | [], [], _, _ => rfl
  | x :: xs, u :: us, hn, hl => by
    obtain ⟨h1, h2⟩ := List.nodup_cons.mp hn
    have ih := lookup_zip xs us h2 (by simpa using hl)
    have e0 : ∀ y, (((x :: xs).zip (u :: us)).reverse).lookup y = (((xs.zip us).reverse).lookup y).or (if y == x then some u else none) := fun y => by
      rw [List.zip_cons_cons, List.reverse_cons, List.lookup_append]
      congr 1
      simp only [List.lookup]
      cases y == x <;> rfl
    have no : ((xs.zip us).reverse).lookup x = none := by
      rw [List.lookup_eq_none_iff]
      intro p hp
      have hp := List.mem_reverse.mp hp
      have := (List.of_mem_zip hp).1
      rw [bne_iff_ne]
      intro e
      rw [e] at h1
      exact h1 this
    rw [List.map_cons, List.map_cons, e0, no]
    refine congr (congrArg List.cons (by simp)) ?_
    rw [← ih]
    refine List.map_congr_left fun y hy => ?_
    rw [e0]
    have ne : (y == x) = false := by
      rw [beq_eq_false_iff_ne]
      intro e
      rw [e] at hy
      exact h1 hy
    rw [ne]
    cases (List.lookup y (xs.zip us).reverse) <;> rfl

theorem fit_init {prog : Program} {w : World} {A : Around} {R : Result → Shared → Prop} {s : Shared} {fs : List Str} {mg mb : Str → Option Value} (T : ExC K file C fI fs) (hfile : ((prog.main.file : Str) == file) = true)
    (htop : (prog.main.scope.names.lookup ("super" : Str)).isSome = false) (hne : fs ≠ []) (hnd : (("self" : Str) :: fs).Nodup) (hdb : ∀ f ∈ fs, (f == ("__debug__" : Str)) = false) (hF : Fields fs) (h9 : fs.length ≤ 900) {x t0 : Addr} {vs : List Value} (hvl : vs.length = fs.length)
    (X : K.In s.heap) (G : s.heap.Ns mainGlobals mg) (hsm : mg "super" = none) (B : s.heap.Ns builtinsNs mb) (hsb : mb "super" = some (.type "super")) (hlim : s.heap.NoLimit) (hx : s.heap.get? x = some (excO C t0)) (hnx : K.lookup x = none) (hroom : A.depth < recursionLimit)
    (hq : ∀ h' tk dx t1, InitEnd s.heap h' x C dx t1 (fs.zip vs).reverse → R (.ok (.ret .none)) { s with heap := h', toks := tk }) :
    codeAny (model prog w) A (.call (.ref fI) ⟨.ref x :: vs, []⟩) R s := by
  obtain ⟨oc, od, osl, nmF, qual, ps, b, sc, kV, doc, pm, an, cdv, ct, cc, cl, cld, csl, ho, hb, hsc, hps, hic, hcc⟩ := iniF_ok T.fn
  obtain ⟨hkd, hgen, hco, hloc, hsup, hcls, hcell⟩ := iniS_ok hsc
  obtain ⟨sk, snm, sgn, sco, smr⟩ := sc
  dsimp only at hkd hgen hco hloc hsup hcls hcell
  subst hkd hgen hco
  obtain ⟨as, eps, has⟩ := iniP_ok hps
  subst eps
  obtain ⟨a0, as', eas⟩ : ∃ a0 as', as = a0 :: as' := by
    cases as with
    | nil => simp at has
    | cons a0 as' => exact ⟨_, _, rfl⟩
  subst eas
  have ea0 : a0.arg = ("self" : Str) := by
    rw [List.map_cons] at has
    exact (List.cons.inj has).1
  obtain ⟨hcd, cda, ccl, ccd, cvs, csl2, tf, ecd, hcda, hfl⟩ := iniC_ok hic
  subst ecd
  obtain ⟨nm, q, N, bs, bm, sn, sub, ab, col, dd, k0, k1, k2, k3, k5, hC, hbm, hal⟩ := T.cls
  have hcl : clsIn K C = some { name := nm, bases := bs, mro := .ref C :: bm, ns := N, qualname := q, hasDict := true, slotNames := sn, subclasses := sub, abstract := ab, collection := col, hasDel := false } := by unfold clsIn; rw [hC] <;> rfl
  obtain ⟨p0, p1, p2, msg, j, p3, p4, p5, b', eb, hpos, hini⟩ := iniB_ok hb
  subst eb
  refine ks_codeAny_call_defAt (binds := (("self" : Str) :: fs).zip (.ref x :: vs)) hroom (X _ _ ho) rfl hlim (codeRec_of X hcd) rfl (hF _ _ _ _ _ _ _ _ _ _ _ _ _ _ has (by simp [hvl])) hcell (fun y hy => hloc _ (List.of_mem_zip hy).1) (fun h₁ hns k₁ => ?_) rfl rfl rfl
  have hxL : s.heap.objs.size ≠ x := Nat.ne_of_gt (Heap.lt_size hx)
  have X₁ : K.In h₁ := X.keeps k₁
  have hx₁ := k₁ _ _ hx
  have hC₁ := X₁ _ _ hC
  have hms : (((("self" : Str) :: fs).zip (.ref x :: vs)).reverse).lookup ("self" : Str) = some (.ref x) := by
    have z := lookup_zip (("self" : Str) :: fs) (.ref x :: vs) hnd (by simp [hvl])
    rw [List.map_cons, List.map_cons] at z
    exact (List.cons.inj z).1
  have hmf : fs.map (fun y => ((("self" : Str) :: fs).zip (.ref x :: vs)).reverse.lookup y) = vs.map some := by
    have z := lookup_zip (("self" : Str) :: fs) (.ref x :: vs) hnd (by simp [hvl])
    rw [List.map_cons, List.map_cons] at z
    exact (List.cons.inj z).2
  refine ks_wpAt_execs_cons (ks_wpAt_Expr_any (ks_wpAt_MethodCall ?_ (super_eq hpos)))
  refine ks_wpAt_super_base (env := ksEnv qual ⟨.function, snm, false, false, smr⟩ s.heap.objs.size fI (.ref cda) cc) hsup hcls rfl rfl (X₁ _ _ ho) rfl rfl rfl (X₁ _ _ hcda) rfl hfl hfile htop ?_
  refine ks_loadName_global rfl hsup (loadGlobal_builtin (env := ksEnv qual ⟨.function, snm, false, false, smr⟩ s.heap.objs.size fI (.ref cda) cc) (G.keeps k₁) hsm (B.keeps k₁) hsb ⟨rfl, ?_⟩)
  refine wpAny_loadName_free rfl hcls rfl ⟨_, X₁ _ _ hcc, rfl⟩ ?_
  show wpAny _ _ (loadName _ a0.arg) _ _ _
  rw [ea0]
  refine wpAny_loadName_local rfl (hloc _ List.mem_cons_self) hns hms ?_
  refine ks_wpAny_isType_cls hC₁ rfl ⟨rfl, ?_⟩
  refine ks_wpAny_call_super hC₁ rfl hx₁ rfl (fun c e => by cases e) (looks_mroIn X₁ (by unfold mroIn; rw [hcl, Option.bind_some]; simp)) (fun h₂ hso k₂ => ?_)
  have X₂ : K.In h₂ := X₁.keeps k₂
  have hx₂ := k₂ _ _ hx₁
  refine kxs_getMethod kxs_ValueError hso (looks_opaque X₂ T.opq) (l₀ := .ref C :: bm) (fun A Q E s k q => wpAny_bind ((looks_clsIn X₂ hcl) A _ E s k (wpAny_pure q))) (ESX.drop_own C bm) X₂ hal ?_ (fun e => by rw [e, hC] at hnx; cases hnx) rfl ?_
  · have I2 : InstAt h₂ x (excO C t0) C none := ⟨hx₂, rfl, rfl, trivial⟩
    refine I2.type.andThen (looks_mroIn X₂ ?_)
    unfold mroIn
    rw [hcl, Option.bind_some]
    have z := refsVE_contains "ValueError" (.ref C :: bm) (show refsVE (.ref C :: bm) = true from hbm)
    simp only [List.isEmpty_cons, Bool.false_eq_true, if_false, z]
    rfl
  · refine kxs_callWith (i := "ValueError.__init__") (x := x) rfl (evalArgs_plain ?_)
    refine Calls.spliced_cons (Calls.Constant_str (k := j) (pos := p3) (Calls.spliced_nil ⟨Heap.get?_push_at rfl rfl, ?_⟩))
    have k₃ : ∀ b o, h₁.get? b = some o → (h₂.push (kxs_mw "ValueError.__init__" x)).get? b = some o := fun b o e => Heap.get?_push_of_some _ (k₂ b o e)
    refine call_mw (k₃ _ _ hC₁) (k₃ _ _ hx₁) (Heap.get?_push_at rfl rfl) (by show 1 ≤ sizeLine; rw [sizeLine_eq]; decide) (fun h₄ t1 k₄ hx₄ => ?_)
    have k5 : ∀ b o, b ≠ x → h₁.get? b = some o → h₄.get? b = some o := fun b o hb e => k₄ b o hb (k₃ b o e)
    refine wpAt_of_wpAny ?_
    refine stores0 (env := ksEnv qual ⟨.function, snm, false, false, smr⟩ s.heap.objs.size fI (.ref cda) cc) T rfl (hloc _ List.mem_cons_self) hms (Ne.symm hxL) hnx hne hini (fun f hf => ⟨hf, hloc f (List.mem_cons_of_mem _ hf), hdb f hf⟩) hmf h9 (ns_but hns hxL k5) (kept_but X₁ hnx k5) hx₄ (fun h₅ tk dx k₅ hx₅ dn dne hns₅ => ?_)
    have hL4 : s.heap.objs.size < h₄.objs.size := by
      obtain ⟨o, es, ep, ho, _⟩ := ns_but hns hxL k5
      exact Heap.lt_size ho
    exact hq h₅ tk dx t1 ⟨fun b o hb e => k₅ b o hb (k5 b o hb (k₁ b o e)), hx₅, Nat.le_trans (Nat.le_of_lt hL4) dn, dne, hns₅⟩
end

end MP

set_option Elab.async false
set_option linter.all false
set_option maxRecDepth 100000
set_option maxHeartbeats 4000000
/-! MP6: own exceptions raised, caught, looked at. -/
namespace MP
open PySem PySem.W PySem.Calls PyProof.Rows PySem.HandSPX
/-- a made exception -/
structure OwnMade (h h' : Heap) (e C d : Addr) (l : List (Str × Value)) : Prop where
  keep : ∀ b o, h.get? b = some o → h'.get? b = some o
  new : h.objs.size ≤ e
  obj : ∃ oe vs, h'.get? e = some oe ∧ oe.cls = .ref C ∧ oe.dict = some d ∧ oe.data = .fields vs ∧ vs[1]? = some .none ∧ vs[2]? = some .none
  dbig : h.objs.size ≤ d
  dne : d ≠ e
  ns : h'.Ns1 d (mOf l)
/-- what is asked of the field names -/
structure FN (fs : List Str) : Prop where
  ne : fs ≠ []
  nd : (("self" : Str) :: fs).Nodup
  db : ∀ f ∈ fs, (f == ("__debug__" : Str)) = false
  bd : Fields fs
  few : fs.length ≤ 900
section
variable {prog : Program} {w : World} {A : Around} {R : Result → Shared → Prop} {s : Shared} {K : Frag} {file : Str} {C fI : Addr} {fs : List Str} {mg mb : Str → Option Value}
theorem fit_made (T : ExC K file C fI fs) (N : FN fs) (hfile : ((prog.main.file : Str) == file) = true) (htop : (prog.main.scope.names.lookup ("super" : Str)).isSome = false) {vs : List Value} (hvl : vs.length = fs.length)
    (X : K.In s.heap) (G : s.heap.Ns mainGlobals mg) (hsm : mg "super" = none) (B : s.heap.Ns builtinsNs mb) (hsb : mb "super" = some (.type "super")) (hlim : s.heap.NoLimit) (hroom : A.depth + 1 < recursionLimit)
    (hq : ∀ h' tk e d, OwnMade s.heap h' e C d (fs.zip vs).reverse → R (.ok (.ret (.ref e))) { s with heap := h', toks := tk }) :
    codeAny (model prog w) A (.call (.ref C) ⟨vs, []⟩) R s := by
  obtain ⟨nm, q, N', bs, bm, sn, sub, ab, col, dd, k0, k1, k2, k3, k5, hC, hbm, hal⟩ := T.cls
  obtain ⟨hp, g, dr, tk, os⟩ := s
  have k : ∀ b o, hp.get? b = some o → ((hp.push (kdv_tup vs)).push (excO C hp.objs.size)).get? b = some o := fun b o e => Heap.get?_push_of_some _ (Heap.get?_push_of_some _ e)
  have hget : ((hp.push (kdv_tup vs)).push (excO C hp.objs.size)).get? (hp.objs.size + 1) = some (excO C hp.objs.size) := by heap_get
  have hnx : K.lookup (hp.objs.size + 1) = none := lookup_big X (Nat.le_succ _)
  have hz : vs.length ≤ sizeLine := by
    have := N.few
    rw [hvl, sizeLine_eq]
    omega
  refine call_own F.excBase_ValueError (fun X => refsVE_contains X bm hbm) (X _ _ hC) (looks_findIn X T.iC) (fun self => bind_fn X self T.tC) hz ?_
  refine fit_init (s := ⟨(hp.push (kdv_tup vs)).push (excO C hp.objs.size), g, dr, tk, os⟩) (mg := mg) (mb := mb) T hfile htop N.ne N.nd N.db N.bd N.few hvl (X.keeps k) (G.keeps k) hsm (B.keeps k) hsb (hlim.keeps k) hget hnx ?_ fun h' tk' dx t1 I => ?_
  · show A.depth + 1 < recursionLimit
    exact hroom
  · obtain ⟨k', hx, dn, dne, hns⟩ := I
    have old : ∀ b o, hp.get? b = some o → h'.get? b = some o := fun b o e => k' b o (Nat.ne_of_lt (Nat.lt_succ_of_lt (Heap.lt_size e))) (k b o e)
    have z : hp.objs.size + 1 + 1 ≤ dx := by
      first
        | (simpa only [Heap.size_push] using dn)
        | exact dn
        | (have q := dn; rw [Heap.size_push, Heap.size_push] at q; exact q)
    exact ⟨rfl, hq h' tk' (hp.objs.size + 1) dx ⟨old, Nat.le_succ _, ⟨_, _, hx, rfl, rfl, rfl, rfl, rfl⟩, Nat.le_trans (Nat.le_trans (Nat.le_succ _) (Nat.le_succ _)) z, dne, hns⟩⟩
end
/-- what the program says beside the classes -/
structure FitW (P : Program) (mg : Str → Option Value) (file : Str) : Prop where
  hfile : ((P.main.file : Str) == file) = true
  htop : (P.main.scope.names.lookup ("super" : Str)).isSome = false
  sup : mg "super" = none
end MP
namespace MP
open PySem L2 PySem.Spec PyProof.Rows
theorem relO_mOf : ∀ (ns : List Str) (vs : List V) (us : List Value), Vals vs us → ∀ f, RelO ((ns.zip vs).lookup f) (mOf (ns.zip us) f)
  | [], vs, us, r, f => trivial
  | n :: ns, [], [], .nil, f => trivial
  | n :: ns, v :: vs, u :: us, .cons r rs, f => by
    rw [List.zip_cons_cons, List.zip_cons_cons]
    have ih := relO_mOf ns vs us rs f
    by_cases h : f = n
    · subst h
      have e : List.lookup f ((f, v) :: ns.zip vs) = some v := by simp [List.lookup]
      rw [e]
      show RelO (some v) (if f = f then some u else mOf _ f)
      rw [if_pos rfl]
      exact r
    · have e1 : (f == n) = false := by simpa using h
      have e : List.lookup f ((n, v) :: ns.zip vs) = (ns.zip vs).lookup f := by simp [List.lookup, e1]
      rw [e]
      show RelO _ (if f = n then some u else mOf _ f)
      rw [if_neg h]
      exact ih
theorem vals_reverse {vs : List V} {us : List Value} (r : Vals vs us) : Vals vs.reverse us.reverse := by
  induction r with
  | nil => exact .nil
  | cons h _ ih =>
    rw [List.reverse_cons, List.reverse_cons]
    exact ih.append (.cons h .nil)
theorem zip_rev {α β : Type} (l : List α) (l' : List β) (h : l.length = l'.length) : (l.zip l').reverse = l.reverse.zip l'.reverse := by
  rw [List.zip_eq_zipWith, List.zip_eq_zipWith, List.reverse_zipWith h]
section
variable {X : Cx} {C fI : Addr} {x file : Str} {names : List Str}
theorem pmk_fit {e : Expr} {es : List Expr} {ta : TA} {p pos : Pos} {k : Nat} (T : ExC X.K file C fI names) (N : FN names) (FW : FitW X.prog X.mg file) (hgC : X.mg x = some (.ref C)) (hr : Room k X.A) (ha : PA X (e :: es) ta) (hg : Gl X x) (hdb : (x == ("__debug__" : Str)) = false)
    (he : starEach (e :: es) X.env = (false, eval e X.env) :: starEach es X.env) (hpl : (backTo pos (starEach es X.env)).any (·.1) = false) :
    L2N.PMk X (.Call (.Name x p) (e :: es) [] pos) (fun σ H Q => ta σ H fun vs H1 => vs.length = names.length ∧ ∀ d, H1 d = none → Q (.ref C) (some d) (upd H1 d (.xd (names.reverse.zip vs.reverse)))) := by
  intro pins s σ H Q I h
  refine wpAny_Call_Name_kw (ld_glob I hg hgC ?_ hdb)
  refine PySem.W.callWith_K (h₀ := X.base) I.ok.mod.kin T.kC (thn (ha.run pos pins s σ H _ I h) fun us s1 hh => ?_) he hpl
  obtain ⟨vs, H1, I1, r1, hl, q1⟩ := hh
  refine ⟨I1.kIn, ?_⟩
  show wpAny _ _ (call (.ref C) us) _ _ _
  have hlim := I1.nolimit
  have bk := I1.bk
  obtain ⟨mb, hb1, hb2⟩ := I1.mod.blt
  have G := I1.mod.glob
  obtain ⟨hp, g, dr, tk, os⟩ := s1
  have hlu : us.length = names.length := by rw [← hl]; exact (Paired.length r1).symm
  refine wpAny_call (fit_made T N FW.hfile FW.htop hlu I1.kIn (G.keeps bk) FW.sup (hb1.keeps bk) ((hb2 _ (by decide)).trans (by decide +kernel)) hlim (by have := hr.dp; omega) fun h' tk' e d M => ?_)
  show L2N.MkP X pins σ Q (.ref e) ⟨h', g, dr, tk', os⟩
  obtain ⟨oe, fv, hoe, hc, hd, hdat, h1, h2⟩ := M.obj
  have hns := M.ns
  obtain ⟨G', g1, g2⟩ := restrict h' fun b => decide (b ≠ e)
  have gk : ∀ b, b ≠ e → G'.get? b = h'.get? b := fun b hb => g1 b (decide_eq_true hb)
  have ge : G'.get? e = none := g2 e (by simp)
  have old : ∀ b o, hp.get? b = some o → G'.get? b = some o := fun b o q => (gk b (Nat.ne_of_lt (Nat.lt_of_lt_of_le (Heap.lt_size q) M.new))).trans (M.keep b o q)
  have ob : ObjOk X.prog X.w (upd H1 d (.xd (names.reverse.zip vs.reverse))) G' d (.xd (names.reverse.zip vs.reverse)) :=
    ⟨_, hns.at (fun o q => (gk d M.dne).trans q), fun f => by
      rw [zip_rev names us hlu.symm]
      exact relO_mOf _ _ _ (vals_reverse r1) f⟩
  have J : Inv X pins σ (upd H1 d (.xd (names.reverse.zip vs.reverse))) ⟨G', g, dr, tk', os⟩ := I1.laid (t' := tk') old M.dbig ob
  refine ⟨e, oe, fv, ⟨G', g, dr, tk', os⟩, _, .ref C, some d, rfl, J, fun b o q => ?_, ge, hoe, ⟨hc, hd, fun vs' ev => ?_⟩, hdat, h1, ?_, rfl, I1.bare, raises_own T.exC T.tyC, q1 d (I1.hok.fresh M.dbig)⟩
  · by_cases hb : b = e
    · have q' : G'.get? b = some o := q
      rw [hb, ge] at q'; cases q'
    · exact (gk b hb).symm.trans q
  · rw [hdat] at ev
    cases ev
    exact h2
  · rw [upd_ne (Ne.symm M.dne)]
    exact I1.hok.fresh M.new
end
theorem rvs_rev {K : PySem.W.Frag} {m : Nat → Addr} {n : Nat} {H : Hp} : ∀ {ds : List D} {vs : List V}, RVs K m n H ds vs → RVs K m n H ds.reverse vs.reverse
  | [], vs, h => by cases h; exact rfl
  | d :: ds, vs, h => by
    obtain ⟨v, r, e, h1, h2⟩ := h
    subst e
    rw [List.reverse_cons, List.reverse_cons]
    exact RVs.app (rvs_rev h2) (RVs.one h1)
/-- raise x(e, ..) -/
def sRaise (x : Str) (names : List Str) (a : FA) : FS := fun ρ st => (a ρ st).so ρ fun ds st1 => if ds.length = names.length then .ex ⟨x, st1.length⟩ ρ (st1 ++ [.xd (names.reverse.zip ds.reverse)]) else .bad
/-- an own exception class: name, its fields -/
def ExcOk (P : Program) (K : PySem.W.Frag) (mg : Str → Option Value) (x : Str) (names : List Str) : Prop :=
  ∃ C fI file, mg x = some (.ref C) ∧ ExC K file C fI names ∧ FitW P mg file
theorem js_raise {X : Cx} {W : Wc} {x : Str} {names : List Str} {e : Expr} {es : List Expr} {fs : FA} {p pos pos2 : Pos} {k : Nat} (hc : X.calm = true) (T : ExcOk X.prog X.K X.mg x names) (N : FN names) (hr : Room k X.A) (tk : L2N.Takes X W.W) (ha : JA X W (e :: es) fs) (hg : Gl X x)
    (hdb : (x == ("__debug__" : Str)) = false := by decide) (he : starEach (e :: es) X.env = (false, eval e X.env) :: starEach es X.env := by rfl) (hpl : (backTo pos (starEach es X.env)).any (·.1) = false := by rfl) :
    JS X W (.Raise (some (.Call (.Name x p) (e :: es) [] pos)) none pos2) (sRaise x names fs) := by
  obtain ⟨C, fI, file, hm, T, FW⟩ := T
  refine ps_imp (L2N.ps_raise hc tk (pmk_fit T N FW hm hr ha hg hdb he hpl)) fun E σ H h => ?_
  obtain ⟨m, st, ρ, rs, re, h⟩ := h
  refine sa_bind rs re h fun ds st1 m1 H1 vs r1 re1 mn1 rv1 h1 => ?_
  by_cases hl : ds.length = names.length
  · rw [if_pos hl] at h1
    refine ⟨by rw [← RVs.len rv1]; exact hl, fun d hd => ?_⟩
    have hlv : vs.length = names.length := by rw [← RVs.len rv1]; exact hl
    have e1 : ((names.reverse.zip ds.reverse).map (·.1)) = names.reverse := by rw [List.map_fst_zip]; simp [hl]
    have e2 : ((names.reverse.zip ds.reverse).map (·.2)) = ds.reverse := by rw [List.map_snd_zip]; simp [hl]
    have rv2 : RVs X.K m1 st1.length H1 ((names.reverse.zip ds.reverse).map (·.2)) vs.reverse := by rw [e2]; exact rvs_rev rv1
    obtain ⟨m2, em, r2, mn2⟩ := r1.pushX hd rv2
    rw [e1] at r2 mn2
    exact h1 m2 _ σ (.ref C) (some d) r2 mn2 (re1.mono mn2) ⟨C, d, hm, rfl, rfl, by simp, by rw [em]⟩
  · rw [if_neg hl] at h1
    exact h1.elim

/-! ### try -/
theorem RE.less {K : PySem.W.Frag} {m : Nat → Addr} {n : Nat} {H : Hp} {gh gh' : List (D × V)} {ρ : En} {σ : L2.St} (r : RE gh K m n H ρ σ) (h : ∀ p ∈ gh', p ∈ gh) : RE gh' K m n H ρ σ := ⟨r.len, r.get, fun p hp => r.gho p (h p hp)⟩
theorem RE.more {K : PySem.W.Frag} {m : Nat → Addr} {n : Nat} {H : Hp} {gh : List (D × V)} {ρ : En} {σ : L2.St} {p : D × V} (r : RE gh K m n H ρ σ) (h : RV K m n H p.1 p.2) : RE (p :: gh) K m n H ρ σ :=
  ⟨r.len, r.get, fun q hq => by
    rcases List.mem_cons.mp hq with e | hq
    · rw [e]; exact h
    · exact r.gho q hq⟩
/-- what a suite leaves -/
def sLeave (i : Nat) : SO → SO
  | .nx ρ st => .nx (ρ.set i none) st
  | .bk ρ st => .bk (ρ.set i none) st
  | .ct ρ st => .ct (ρ.set i none) st
  | .rt d st => .rt d st
  | .ex _ _ _ => .bad
  | .bad => .bad
def sTryAs (i : Nat) (tb : List (Str × Bool)) (fb : FS) (fh : Ex → Nat → FS) : FS := fun ρ st => match fb ρ st with
  | .ex e ρ1 st1 => (match tb.lookup e.cls with
    | some true => sLeave i (fh e st1.length (ρ1.set i (some (.loc st1.length))) (st1 ++ [.nu]))
    | some false => .ex e ρ1 st1
    | none => .bad)
  | o => o
def sLeave0 : SO → SO
  | .ex _ _ _ => .bad
  | o => o
/-- except x: with no name -/
def sTry (tb : List (Str × Bool)) (fb fh : FS) : FS := fun ρ st => match fb ρ st with
  | .ex e ρ1 st1 => (match tb.lookup e.cls with
    | some true => sLeave0 (fh ρ1 st1)
    | some false => .ex e ρ1 st1
    | none => .bad)
  | o => o
theorem lookup_mem {tb : List (Str × Bool)} {x : Str} {b : Bool} (h : tb.lookup x = some b) : (x, b) ∈ tb := by
  induction tb with
  | nil => simp at h
  | cons p r ih =>
    obtain ⟨y, c⟩ := p
    rw [List.lookup_cons] at h
    cases q : (x == y) with
    | true =>
      rw [q] at h
      have e := beq_iff_eq.mp q
      cases h
      rw [e]
      exact List.mem_cons_self
    | false =>
      rw [q] at h
      exact List.mem_cons_of_mem _ (ih h)
abbrev noX : WX := fun _ _ _ _ => False
theorem takes_suite {X : Cx} {a : Addr} {pn : List (Addr × Obj)} : L2N.Takes (X.suite a pn) noX := fun u s' ⟨_, _, _, _, _, _, _, _, _, _, _, _, _, _, _, _, w⟩ => w
/-- a table of classes against the class of a clause -/
def Tab (K : PySem.W.Frag) (mg : Str → Option Value) (c : Value) (tb : List (Str × Bool)) : Prop := ∀ p ∈ tb, ∃ C, mg p.1 = some (.ref C) ∧ PySem.W.exmOne K (.ref C) c = some p.2
section
variable {X : Cx} {x n : Str} {c : Value} {i : Nat} {body suite : List Stmt} {b₀ : Stmt} {np pos pos' : Pos} {W : Wc} {fb : FS} {tb : List (Str × Bool)}
theorem js_try_as {fh : Ex → Nat → FS} (hs : X.stack = X.env :: X.outer) (hf : X.env.frame = some X.env.locals) (hN : X.N.Nodup) (hi : X.N[i]? = some n) (hln : X.env.kindOf n = some .local) (hc : Names X x c) (tk : L2N.Takes X W.W)
    (htab : Tab X.K X.mg c tb)
    (hb : ∀ (WB : WX) (pn : List (Addr × Obj)) (xe : Value → Shared → Prop), L2N.Takes (X.tr pn xe) WB → PassesOwn (model X.prog X.w) X.A X.env xe → JB (X.tr pn xe) ⟨WB, W.gh⟩ body fb)
    (hsu : ∀ (e : Ex) (k : Nat) (a C dx : Addr) (oe : Obj) (pn : List (Addr × Obj)), X.mg e.cls = some (.ref C) → L2N.Zn (.ref C) (some dx) oe → (∃ vs, oe.data = .fields vs) →
      JB (X.suite a ((a, oe) :: pn)) ⟨noX, (.loc k, .ref a) :: (.loc e.at_, .ref dx) :: W.gh⟩ (b₀ :: suite) (fh e k)) :
    JS X W (.Try body [.ExceptHandler (some (.Name x np)) (some n) (b₀ :: suite) pos'] [] [] pos) (sTryAs i tb fb fh) := by
  refine ps_imp (L2N.ps_try_as (tb := fun WB => rS X.K X.mg ⟨WB, W.gh⟩ fb) (ts := fun a cls d => fun D σ H => ∃ e C dx k, X.mg e.cls = some (.ref C) ∧ cls = .ref C ∧ d = some dx ∧ rS X.K X.mg ⟨noX, (.loc k, .ref a) :: (.loc e.at_, .ref dx) :: W.gh⟩ (fh e k) D σ H)
    hs hf hN hi hln hc tk (fun WB pn xe t hp => hb WB pn xe t hp) (fun a oe cls d pn hz hd => ⟨fun pins s σ H E I h => ?_⟩)) fun D σ H h => ?_
  · obtain ⟨e, C, dx, k, hm, rfl, rfl, h⟩ := h
    exact (hsu e k a C dx oe pn hm hz hd).run pins s σ H E I h
  · obtain ⟨m, st, ρ, rs, re, h⟩ := h
    refine ⟨m, st, ρ, rs, re, ?_⟩
    unfold sTryAs at h
    cases q : fb ρ st with
    | nx ρ1 st1 => rw [q] at h; exact h
    | rt d st1 => rw [q] at h; exact h
    | bk ρ1 st1 => rw [q] at h; exact h
    | ct ρ1 st1 => rw [q] at h; exact h
    | bad => rw [q] at h; exact h
    | ex e ρ1 st1 =>
      rw [q] at h
      simp only at h
      intro m1 H1 σ1 cls od r1 mn1 re1 rx
      obtain ⟨C, dx, hm, hcl, hod, hrv⟩ := rx
      cases ql : tb.lookup e.cls with
      | none => rw [ql] at h; exact h.elim
      | some b =>
        rw [ql] at h
        obtain ⟨C', hm', hx⟩ := htab _ (lookup_mem ql)
        have eC : C' = C := by
          have := hm'.symm.trans hm
          cases this
          rfl
        subst eC
        subst hcl hod
        refine ⟨b, hx, fun hb1 a ha => ?_, fun hb0 => ?_⟩
        · subst hb1
          simp only at h
          obtain ⟨m2, em, r2, mn2⟩ := r1.pushN a
          have rvk : RV X.K m2 (st1 ++ [Ob.nu]).length H1 (.loc st1.length) (.ref a) := ⟨by simp, by rw [em]⟩
          refine ⟨e, C', dx, st1.length, hm, rfl, rfl, m2, _, _, r2, (((re1.mono mn2).more (p := (.loc e.at_, .ref dx)) (mn2 _ _ hrv)).more (p := (.loc st1.length, .ref a)) rvk).set rvk, ?_⟩
          have sub : ∀ p ∈ W.gh, p ∈ (MP.D.loc st1.length, V.ref a) :: (MP.D.loc e.at_, V.ref dx) :: W.gh := fun p hp => List.mem_cons_of_mem _ (List.mem_cons_of_mem _ hp)
          cases q2 : fh e st1.length (ρ1.set i (some (.loc st1.length))) (st1 ++ [.nu]) with
          | nx ρ2 st2 => rw [q2] at h; exact fun m3 H3 σ3 r3 mn3 re3 => h m3 H3 _ r3 ((mn1.trans mn2).trans mn3) (re3.less sub).drop
          | bk ρ2 st2 => rw [q2] at h; exact fun m3 H3 σ3 r3 mn3 re3 => h m3 H3 _ r3 ((mn1.trans mn2).trans mn3) (re3.less sub).drop
          | ct ρ2 st2 => rw [q2] at h; exact fun m3 H3 σ3 r3 mn3 re3 => h m3 H3 _ r3 ((mn1.trans mn2).trans mn3) (re3.less sub).drop
          | rt d2 st2 => rw [q2] at h; exact fun m3 H3 v3 r3 mn3 rv3 => h m3 H3 v3 r3 ((mn1.trans mn2).trans mn3) rv3
          | ex _ _ _ => rw [q2] at h; exact h.elim
          | bad => rw [q2] at h; exact h.elim
        · subst hb0
          exact h m1 H1 σ1 _ _ r1 mn1 re1 ⟨C', dx, hm, rfl, rfl, hrv⟩
theorem js_try {fh : FS} (hs : X.stack = X.env :: X.outer) (hf : X.env.frame = some X.env.locals) (hc : Names X x c) (tk : L2N.Takes X W.W)
    (htab : Tab X.K X.mg c tb)
    (hb : ∀ (WB : WX) (pn : List (Addr × Obj)) (xe : Value → Shared → Prop), L2N.Takes (X.tr pn xe) WB → PassesOwn (model X.prog X.w) X.A X.env xe → JB (X.tr pn xe) ⟨WB, W.gh⟩ body fb)
    (hsu : ∀ (a : Addr) (oe : Obj) (pn : List (Addr × Obj)), (∃ vs, oe.data = .fields vs) → JB (X.suite a ((a, oe) :: pn)) ⟨noX, W.gh⟩ (b₀ :: suite) fh) :
    JS X W (.Try body [.ExceptHandler (some (.Name x np)) none (b₀ :: suite) pos'] [] [] pos) (sTry tb fb fh) := by
  refine ps_imp (L2N.ps_try_many (tb := fun WB => rS X.K X.mg ⟨WB, W.gh⟩ fb) hs hf tk (fun WB pn xe t hp => hb WB pn xe t hp) (.cons (ts := fun a cls d => rS X.K X.mg ⟨noX, W.gh⟩ fh) hc (fun a oe cls d pn hz hd => hsu a oe pn hd) .nil)) fun D σ H h => ?_
  obtain ⟨m, st, ρ, rs, re, h⟩ := h
  refine ⟨m, st, ρ, rs, re, ?_⟩
  unfold sTry at h
  cases q : fb ρ st with
  | nx ρ1 st1 => rw [q] at h; exact h
  | rt d st1 => rw [q] at h; exact h
  | bk ρ1 st1 => rw [q] at h; exact h
  | ct ρ1 st1 => rw [q] at h; exact h
  | bad => rw [q] at h; exact h
  | ex e ρ1 st1 =>
    rw [q] at h
    simp only at h
    intro m1 H1 σ1 cls od r1 mn1 re1 rx
    obtain ⟨C, dx, hm, hcl, hod, hrv⟩ := rx
    cases ql : tb.lookup e.cls with
    | none => rw [ql] at h; exact h.elim
    | some b =>
      rw [ql] at h
      obtain ⟨C', hm', hx⟩ := htab _ (lookup_mem ql)
      have eC : C' = C := by
        have := hm'.symm.trans hm
        cases this
        rfl
      subst eC
      subst hcl hod
      refine ⟨b, hx, fun hb1 a ha => ?_, fun hb0 => ?_⟩
      · subst hb1
        simp only at h
        refine ⟨m1, _, _, r1, re1, ?_⟩
        cases q2 : fh ρ1 st1 with
        | nx ρ2 st2 => rw [q2] at h; exact fun m3 H3 σ3 r3 mn3 re3 => h m3 H3 _ r3 (mn1.trans mn3) re3
        | bk ρ2 st2 => rw [q2] at h; exact fun m3 H3 σ3 r3 mn3 re3 => h m3 H3 _ r3 (mn1.trans mn3) re3
        | ct ρ2 st2 => rw [q2] at h; exact fun m3 H3 σ3 r3 mn3 re3 => h m3 H3 _ r3 (mn1.trans mn3) re3
        | rt d2 st2 => rw [q2] at h; exact fun m3 H3 v3 r3 mn3 rv3 => h m3 H3 v3 r3 (mn1.trans mn3) rv3
        | ex _ _ _ => rw [q2] at h; exact h.elim
        | bad => rw [q2] at h; exact h.elim
      · subst hb0
        exact h m1 H1 σ1 _ _ r1 mn1 re1 ⟨C', dx, hm, rfl, rfl, hrv⟩
end

/-! ### looking at the exception that the suite holds -/
def kXf (k : Nat) (e : Ex) (cs : List Str) (f : Str) (x : D) (st : S) : Out D := if x = .loc k ∧ e.cls ∈ cs then (match st[e.at_]? with
  | some (.xd fs) => (match fs.lookup f with
    | some d => .ok d st
    | none => .bad)
  | _ => .bad) else .bad
def fXf (k : Nat) (e : Ex) (cs : List Str) (f : Str) (a : FE) : FE := fun ρ st => (a ρ st).bind (kXf k e cs f)
def kIsX (k : Nat) (e : Ex) (tb : List (Str × Bool)) (x : D) (st : S) : Out D := if x = .loc k then (match st[e.at_]? with
  | some (.xd _) => (match tb.lookup e.cls with
    | some b => .ok (.bl b) st
    | none => .bad)
  | _ => .bad) else .bad
def fIsX (k : Nat) (e : Ex) (tb : List (Str × Bool)) (a : FE) : FE := fun ρ st => (a ρ st).bind (kIsX k e tb)
/-- the suite's exception -/
structure SuX (X : Cx) (gh : List (D × V)) (e : Ex) (k : Nat) (a C dx : Addr) (oe : Obj) : Prop where
  hm : X.mg e.cls = some (.ref C)
  hz : L2N.Zn (.ref C) (some dx) oe
  hd : ∃ vs, oe.data = .fields vs
  gk : (.loc k, .ref a) ∈ gh
  gx : (.loc e.at_, .ref dx) ∈ gh
/-- the field f of the classes cs -/
def FldOk (K : PySem.W.Frag) (mg : Str → Option Value) (cs : List Str) (f : Str) : Prop := ∀ c ∈ cs, ∃ C, mg c = some (.ref C) ∧ XfC K C ∧ PySem.W.findIn K (.ref C) f = some none
def TabI (K : PySem.W.Frag) (mg : Str → Option Value) (c : Value) (tb : List (Str × Bool)) : Prop := ∀ p ∈ tb, ∃ C, mg p.1 = some (.ref C) ∧ L2.ExcC K C ∧ PySem.W.kitOne K (.ref C) c = some p.2
theorem lookup_map {fs : List (Str × D)} {vs : List V} {K : PySem.W.Frag} {m : Nat → Addr} {n : Nat} {H : Hp} (h : RVs K m n H (fs.map (·.2)) vs) {f : Str} {d : D} (e : fs.lookup f = some d) : ∃ v, ((fs.map (·.1)).zip vs).lookup f = some v ∧ RV K m n H d v := by
  induction fs generalizing vs with
  | nil => simp at e
  | cons p r ih =>
    obtain ⟨y, c⟩ := p
    obtain ⟨v, vr, ev, h1, h2⟩ := h
    subst ev
    rw [List.lookup_cons] at e
    rw [List.map_cons, List.zip_cons_cons, List.lookup_cons]
    cases q : (f == y) with
    | true =>
      rw [q] at e
      cases e
      exact ⟨v, rfl, h1⟩
    | false =>
      rw [q] at e
      exact ih h2 e
def rIsX (K : PySem.W.Frag) (C a dx : Addr) : List V → Hp → VK → Prop := fun xs H Q => ∃ (c : V) (cv : Value) (b : Bool) (fs : List (Str × V)), xs = [.ref a, c] ∧ (∀ u, RelV c u → u = cv) ∧ PySem.W.kitOne K (.ref C) cv = some b ∧ H dx = some (.xd fs) ∧ Q (.bl b) H
section
variable {X : Cx} {W : Wc} {e : Ex} {k : Nat} {a C dx : Addr} {oe : Obj} {pn : List (Addr × Obj)} {x : Expr} {fa : FE}
theorem call_isX (E : L2.ExcC X.K C) (hz : Zc (.ref C) (some dx) oe) (hf : ∃ vs, oe.data = .fields vs) : CallR (X.suite a ((a, oe) :: pn)) (.builtin "isinstance") (rIsX X.K C a dx) := by
  intro pins s σ H xs us Q I r h
  obtain ⟨c, cv, b, fs, rfl, hcv, e, hxd, q⟩ := h
  cases r with
  | cons rx rr =>
    cases rr with
    | cons rt rr =>
      cases rr
      cases rx
      have ec := hcv _ rt
      subst ec
      obtain ⟨hget, _⟩ := I.pin (a, oe) (List.mem_append.mpr (.inl List.mem_cons_self))
      obtain ⟨vs, hv⟩ := hf
      obtain ⟨mA, hns, hr⟩ := (I.hok dx _ hxd : ObjOk X.prog X.w H s.heap dx (.xd fs))
      obtain ⟨od, ho, _⟩ := lookIn_ns hns
      have J : PySem.W.InstAt s.heap a oe C (some od) := ⟨hget, hz.1, by unfold PySem.W.notCls; rw [hv] <;> rfl, by rw [hz.2]; exact ho⟩
      have hcl : (PySem.W.clsIn X.K C).isSome = true := by
        have z := E.hd
        unfold PySem.W.hasDictIn at z
        cases q : PySem.W.clsIn X.K C with
        | none => rw [q] at z; cases z
        | some cd => rfl
      exact PySem.W.kia_one (PySem.W.kitx_exc hcl E.hg E.hk E.hs E.ha E.hn E.ht E.hm) I.kIn J e (fun z => nomatch z) fun tk => ⟨.bl b, H, I.kept (t' := tk) fun _ _ z => z, rfl, q⟩
/-- isinstance(e, c) -/
theorem je_isX {nm : Str} {vc : V} {cv : Value} {tb : List (Str × Bool)} {p p2 pos : Pos} (S : SuX X W.gh e k a C dx oe) (T : TabI X.K X.mg cv tb) (hT : PE (X.suite a ((a, oe) :: pn)) (.Name nm p2) (tC vc)) (hcv : ∀ u, RelV vc u → u = cv)
    (hg : Gl X "isinstance") (hm : X.mg "isinstance" = none) (ha : JE (X.suite a ((a, oe) :: pn)) W x fa)
    (he : starEach (x :: [.Name nm p2]) X.env = (false, eval x X.env) :: starEach [.Name nm p2] X.env := by rfl) (hpl : (backTo pos (starEach [.Name nm p2] X.env)).any (·.1) = false := by rfl) :
    JE (X.suite a ((a, oe) :: pn)) W (.Call (.Name "isinstance" p) [x, .Name nm p2] [] pos) (fIsX k e tb fa) := by
  cases ql : tb.lookup e.cls with
  | none =>
    refine pe_imp (pe_callB (X := X.suite a ((a, oe) :: pn)) (r := fun _ _ _ => False) (fun _ _ _ _ _ _ _ _ _ h => h.elim) hg hm PyProof.Rows.boot_isinstance (pa_cons ha (pa_cons hT pa_nil) he) (by decide) (by decide) he hpl) fun σ H Q h => ?_
    obtain ⟨m, st, ρ, rs, re, h⟩ := h
    refine re_bind (k := fun x st1 ρ => kIsX k e tb x st1) rs re h fun x st1 m1 H1 v1 r1 re1 mn1 rv1 h1 => ?_
    have hbad : kIsX k e tb x st1 = .bad := by
      unfold kIsX
      rw [ql]
      split
      · split <;> rfl
      · rfl
    rw [hbad] at h1
    exact h1.elim
  | some b =>
    obtain ⟨C', hm', hE, hx⟩ := T _ (lookup_mem ql)
    have eC : C' = C := by
      have := hm'.symm.trans S.hm
      cases this
      rfl
    subst eC
    refine pe_imp (pe_callB (X := X.suite a ((a, oe) :: pn)) (call_isX hE S.hz.zc S.hd) hg hm PyProof.Rows.boot_isinstance (pa_cons ha (pa_cons hT pa_nil) he) (by decide) (by decide) he hpl) fun σ H Q h => ?_
    obtain ⟨m, st, ρ, rs, re, h⟩ := h
    refine re_bind (k := fun x st1 ρ => kIsX k e tb x st1) rs re h fun x st1 m1 H1 v1 r1 re1 mn1 rv1 h1 => ?_
    unfold kIsX at h1
    by_cases hx' : x = .loc k
    · rw [if_pos hx'] at h1
      subst hx'
      have gk := re1.gho _ S.gk
      have gx := re1.gho _ S.gx
      have ev : v1 = .ref a := by
        obtain ⟨_, q1⟩ := rv1
        obtain ⟨_, q2⟩ := gk
        rw [q1]
        exact q2.symm
      subst ev
      cases q : st1[e.at_]? with
      | none => rw [q] at h1; exact h1.elim
      | some ob =>
        rw [q] at h1
        cases ob with
        | xd fs =>
          simp only [ql] at h1
          obtain ⟨vs, hxd, _⟩ := r1.at_ _ _ q
          have ed : m1 e.at_ = dx := by
            obtain ⟨_, q2⟩ := gx
            injection q2 with q3
            exact q3.symm
          exact ⟨vc, cv, b, _, rfl, hcv, hx, by rw [← ed]; exact hxd, h1 m1 H1 r1 Mn.refl _ rfl⟩
        | _ => exact h1.elim
    · rw [if_neg hx'] at h1; exact h1.elim
/-- e.f -/
theorem je_xf {f : Str} {cs : List Str} {pos : Pos} (S : SuX X W.gh e k a C dx oe) (T : FldOk X.K X.mg cs f) (ha : JE (X.suite a ((a, oe) :: pn)) W x fa) (hb : attributeBase x f X.env (eval x X.env) = eval x X.env := by rfl) :
    JE (X.suite a ((a, oe) :: pn)) W (.Attribute x f pos) (fXf k e cs f fa) := by
  by_cases hc : e.cls ∈ cs
  · obtain ⟨C', hm', hE, hx⟩ := T _ hc
    have eC : C' = C := by
      have := hm'.symm.trans S.hm
      cases this
      rfl
    subst eC
    refine pe_imp (pe_xf hE hx S.hz.zc S.hd ha hb) fun σ H Q h => ?_
    obtain ⟨m, st, ρ, rs, re, h⟩ := h
    refine re_bind (k := fun x st1 ρ => kXf k e cs f x st1) rs re h fun x st1 m1 H1 v1 r1 re1 mn1 rv1 h1 => ?_
    unfold kXf at h1
    by_cases hx' : x = .loc k ∧ e.cls ∈ cs
    · rw [if_pos hx'] at h1
      obtain ⟨hx', _⟩ := hx'
      subst hx'
      have gk := re1.gho _ S.gk
      have gx := re1.gho _ S.gx
      have ev : v1 = .ref a := by
        obtain ⟨_, q1⟩ := rv1
        obtain ⟨_, q2⟩ := gk
        rw [q1]
        exact q2.symm
      subst ev
      cases q : st1[e.at_]? with
      | none => rw [q] at h1; exact h1.elim
      | some ob =>
        rw [q] at h1
        cases ob with
        | xd fs =>
          simp only at h1
          cases qf : fs.lookup f with
          | none => rw [qf] at h1; exact h1.elim
          | some d =>
            rw [qf] at h1
            obtain ⟨vs, hxd, hvs⟩ := r1.at_ _ _ q
            have ed : m1 e.at_ = dx := by
              obtain ⟨_, q2⟩ := gx
              injection q2 with q3
              exact q3.symm
            obtain ⟨v, hl, hv⟩ := lookup_map hvs qf
            exact ⟨rfl, rfl, dx, _, v, rfl, by rw [← ed]; exact hxd, hl, h1 m1 H1 r1 Mn.refl v hv⟩
        | _ => exact h1.elim
    · rw [if_neg hx'] at h1; exact h1.elim
  · refine ⟨fun pins s σ H Q I h => attr_of hb (thn (ha.run pins s σ H (fun _ _ => False) I ?_) fun u s1 ⟨_, _, _, _, q⟩ => q.elim)⟩
    obtain ⟨m, st, ρ, rs, re, h⟩ := h
    refine re_bind (k := fun x st1 ρ => kXf k e cs f x st1) rs re h fun x st1 m1 H1 v1 r1 re1 mn1 rv1 h1 => ?_
    unfold kXf at h1
    rw [if_neg (fun z => hc z.2)] at h1
    exact h1.elim
end
end MP

set_option Elab.async false
set_option linter.all false
set_option maxRecDepth 100000
set_option maxHeartbeats 4000000
/-! MP7: the head's hook with any facts of the written part that are told by a Bool, and what they say. -/
namespace MP
open PySem L2 PySem.Spec PyProof.Rows
abbrev FrB := PySem.W.Frag → Bool
abbrev AlM : Type := Bool × List He.FnW
def asM (g : Addr → Option Obj) : Nat → List Addr
  | 0 => [mainGlobals, cStatics]
  | n + 1 => He.growD g (asM g n)
def obsM (xs : List FrB) (fn : List He.DefD) (K : PySem.W.Frag) : AlM := ((xs.all fun f => f K) && fn.all fun d => d.ok K, fn.map fun d => He.fnW K d.at_)
def valM (fn : List He.DefD) : AlM := (true, fn.map He.DefD.val)
def SaysM (xs : List FrB) (fn : List He.DefD) (K : PySem.W.Frag) : Prop := obsM xs fn K = valM fn
def obsMG (n : Nat) (xs : List FrB) (fn : List He.DefD) (g : Addr → Option Obj) : AlM := obsM xs fn (He.frG g (asM g n))
def hookM (n : Nat) (xs : List FrB) (fn : List He.DefD) : PySem.W.Hook where
  α := AlM
  obs := fun s => obsMG n xs fn s.heap.get?
  val := fun _ => valM fn
  says := fun _ h => ∃ K : PySem.W.Frag, K.In h ∧ SaysM xs fn K
  of := fun _ _ e => ⟨_, He.frG_in, e⟩
  keeps := fun _ _ _ ⟨K, hK, c⟩ k => ⟨K, PySem.W.Frag.In.keeps hK k, c⟩
theorem obsMG_eq {n : Nat} {xs : List FrB} {fn : List He.DefD} {g : Addr → Option Obj} {s : Shared} (h : ∀ a, g a = s.heap.get? a) : obsMG n xs fn g = (hookM n xs fn).obs s := by
  have e : g = s.heap.get? := funext h
  rw [e] <;> rfl
section
variable {xs : List FrB} {fn : List He.DefD} {K : PySem.W.Frag}
theorem SaysM.fact (c : SaysM xs fn K) (i : Nat) {f : FrB} (h : xs[i]? = some f := by rfl) : f K = true := by
  have c1 := (He.ba (show ((xs.all fun f => f K) && fn.all fun d => d.ok K) = true from congrArg (fun z : AlM => z.1) c)).1
  exact List.all_eq_true.mp c1 f (List.mem_of_getElem? h)
theorem SaysM.def_ (c : SaysM xs fn K) (i : Nat) {d : He.DefD} (h : fn[i]? = some d := by rfl) : ∃ fd, FunD K d.name d.qual d.params d.body d.scope (d.dvs K) (d.kws K) (He.fAd K d.at_) fd := by
  have c2 := (He.ba (show ((xs.all fun f => f K) && fn.all fun d => d.ok K) = true from congrArg (fun z : AlM => z.1) c)).2
  have e : fn.map (fun d => He.fnW K d.at_) = fn.map He.DefD.val := congrArg (fun z : AlM => z.2) c
  have e2 : (fn.map fun d => He.fnW K d.at_)[i]? = (fn.map He.DefD.val)[i]? := by rw [e]
  rw [List.getElem?_map, List.getElem?_map, h] at e2
  exact He.DefD.funD (Option.some.inj e2) (List.all_eq_true.mp c2 d (List.mem_of_getElem? h))
end
/-! ### facts -/
def faB (f : He.Fa) : FrB := fun K => f.ok K
def bltB (x : Str) (i : String) : FrB := fun K => He.eqO (PySem.W.nsIn K mainGlobals x) (some (some (.builtin i)))
def excB (file x : Str) (fs : List Str) : FrB := fun K => He.eqO (PySem.W.nsIn K mainGlobals x) (some (some (.ref (He.ga K x)))) && excX K file (He.ga K x) (He.ma K (He.ga K x) "__init__") fs
def xfcB (x f : Str) : FrB := fun K => xfB K (He.ga K x) && He.eqO (PySem.W.findIn K (.ref (He.ga K x)) f) (some none)
def ixcB (x : Str) : FrB := fun K =>
  He.eqO (PySem.W.findIn K (.ref (He.ga K x)) "__getattribute__") (some (some (.builtin "BaseException.__getattribute__"))) && (He.eqO (PySem.W.findIn K (.ref (He.ga K x)) "__getattr__") (some none) &&
  (decide (PySem.W.subIn K (.ref (He.ga K x)) (.type "BaseException") = some true) && (PySem.W.hasDictIn K (He.ga K x) && (He.eqO (PySem.W.findIn K (.ref (He.ga K x)) "__class__") (some (some (.builtin "object.__class__"))) &&
  (He.eqO (PySem.W.specialIn K (.builtin "object.__class__") "__get__") (some (some (.builtin "getset_descriptor.__get__"))) && (decide (PySem.W.takesIn K (.builtin "object.__class__") = some true) && decide (PySem.W.mroIn K (He.ga K x) (.type "object") = some true)))))))
/-- the value that a name stands for in an isinstance -/
inductive Cv where
  | glo (x : Str) | ty (n : String)
def Cv.v (K : PySem.W.Frag) : Cv → Value
  | .glo x => .ref (He.ga K x)
  | .ty n => .type n
def kitB1 (x : Str) (c : Cv) (b : Bool) : FrB := fun K => decide (PySem.W.kitOne K (.ref (He.ga K x)) (c.v K) = some b)
def exmB1 (x : Str) (c : Cv) (b : Bool) : FrB := fun K => decide (PySem.W.exmOne K (.ref (He.ga K x)) (c.v K) = some b)
def gloB (x : Str) : FrB := faB (.glo x)
def freeB (x : Str) : FrB := faB (.free x)
def tupB (x : Str) (vs : List He.Dv) : FrB := fun K => He.eqO (PySem.W.nsIn K mainGlobals x) (some (some (.ref (He.ga K x)))) && He.tupB K x vs
section
variable {K : PySem.W.Frag} {h : Heap} {mg : Str → Option Value} {P : Program}
theorem glo_of (X : K.In h) (G : h.Ns mainGlobals mg) {x : Str} (c : gloB x K = true) : mg x = some (.ref (He.ga K x)) := He.glo_ok X G c
theorem free_of (X : K.In h) (G : h.Ns mainGlobals mg) {x : Str} (c : freeB x K = true) : mg x = none := He.free_ok X G c
theorem blt_of (X : K.In h) (G : h.Ns mainGlobals mg) {x : Str} {i : String} (c : bltB x i K = true) : mg x = some (.builtin i) := PySem.W.mg_of X G (He.eqO_ok c)
theorem exc_of (X : K.In h) (G : h.Ns mainGlobals mg) {file x : Str} {fs : List Str} (FW : FitW P mg file) (c : excB file x fs K = true) : ExcOk P K mg x fs := by
  obtain ⟨c1, c2⟩ := aa c
  exact ⟨_, _, file, PySem.W.mg_of X G (He.eqO_ok c1), excX_ok c2, FW⟩
theorem ixc_of {x : Str} (c : ixcB x K = true) : L2.ExcC K (He.ga K x) := by
  obtain ⟨c1, c⟩ := aa c
  obtain ⟨c2, c⟩ := aa c
  obtain ⟨c3, c⟩ := aa c
  obtain ⟨c4, c⟩ := aa c
  obtain ⟨c5, c⟩ := aa c
  obtain ⟨c6, c⟩ := aa c
  obtain ⟨c7, c8⟩ := aa c
  exact ⟨He.eqO_ok c1, He.eqO_ok c2, of_decide_eq_true c3, c4, He.eqO_ok c5, He.eqO_ok c6, of_decide_eq_true c7, of_decide_eq_true c8⟩
theorem fld_nil {f : Str} : FldOk K mg [] f := fun _ h => nomatch h
theorem fld_cons {x f : Str} {cs : List Str} (hx : mg x = some (.ref (He.ga K x))) (c : xfcB x f K = true) (r : FldOk K mg cs f) : FldOk K mg (x :: cs) f := fun y hy => by
  rcases List.mem_cons.mp hy with e | hy
  · subst e
    obtain ⟨c1, c2⟩ := aa c
    exact ⟨_, hx, xfB_ok c1, He.eqO_ok c2⟩
  · exact r y hy
theorem tab_nil {c : Value} : Tab K mg c [] := fun _ h => nomatch h
theorem tab_cons {x : Str} {cv : Cv} {b : Bool} {tb : List (Str × Bool)} (hx : mg x = some (.ref (He.ga K x))) (c : exmB1 x cv b K = true) (r : Tab K mg (cv.v K) tb) : Tab K mg (cv.v K) ((x, b) :: tb) := fun y hy => by
  rcases List.mem_cons.mp hy with e | hy
  · subst e
    exact ⟨_, hx, of_decide_eq_true c⟩
  · exact r y hy
theorem tabi_nil {c : Value} : TabI K mg c [] := fun _ h => nomatch h
theorem tabi_cons {x : Str} {cv : Cv} {b : Bool} {tb : List (Str × Bool)} (hx : mg x = some (.ref (He.ga K x))) (hi : L2.ExcC K (He.ga K x)) (c : kitB1 x cv b K = true) (r : TabI K mg (cv.v K) tb) : TabI K mg (cv.v K) ((x, b) :: tb) := fun y hy => by
  rcases List.mem_cons.mp hy with e | hy
  · subst e
    exact ⟨_, hx, hi, of_decide_eq_true c⟩
  · exact r y hy
/-- a datum that the written part holds -/
def KD (K : PySem.W.Frag) (d : D) (u : Value) : Prop := ∃ v, RelV v u ∧ ∀ m n H, RV K m n H d v
def dOf : He.Dv → Option D
  | .non => some .non
  | .bl b => some (.bl b)
  | .int i => some (.int i)
  | .str x => some (.str x)
  | _ => none
def dsOf : List He.Dv → Option (List D)
  | [] => some []
  | v :: vs => (dOf v).bind fun d => (dsOf vs).bind fun ds => some (d :: ds)
theorem dOf_rv {v : He.Dv} {d : D} (e : dOf v = some d) (m : Nat → Addr) (n : Nat) (H : Hp) : RV K m n H d (v.v K) := by
  cases v <;> first | (cases e; rfl) | cases e
theorem dsOf_rv : ∀ {vs : List He.Dv} {ds : List D}, dsOf vs = some ds → ∀ (m : Nat → Addr) (n : Nat) (H : Hp), RVs K m n H ds (vs.map (He.Dv.v K))
  | [], ds, e, m, n, H => by cases e; exact rfl
  | v :: vs, ds, e, m, n, H => by
    unfold dsOf at e
    cases h1 : dOf v with
    | none => rw [h1] at e; cases e
    | some d =>
      rw [h1] at e
      cases h2 : dsOf vs with
      | none => rw [h2] at e; cases e
      | some ds' =>
        rw [h2] at e
        cases e
        exact ⟨_, _, rfl, dOf_rv h1 m n H, dsOf_rv h2 m n H⟩
theorem tup_of {x : Str} {vs : List He.Dv} {ds : List D} (e : dsOf vs = some ds) (X : K.In h) (G : h.Ns mainGlobals mg) (c : tupB x vs K = true) : ∃ u, mg x = some u ∧ KD K (.tup ds) u := by
  obtain ⟨c1, c2⟩ := aa c
  exact ⟨_, PySem.W.mg_of X G (He.eqO_ok c1), .ref (He.ga K x), rfl, fun m n H => ⟨_, _, rfl, He.tupB_ok c2 H, dsOf_rv e m n H⟩⟩
theorem je_kd {X : Cx} {W : Wc} {x : Str} {d : D} {pos : Pos} (c : ∃ u, X.mg x = some u ∧ KD X.K d u) (hg : Gl X x) (hd : (x == ("__debug__" : Str)) = false := by decide) : JE X W (.Name x pos) (fC d) := by
  obtain ⟨u, hm, v, hr, hv⟩ := c
  exact pe_imp (pe_glob hg hm hr hd) fun σ H Q ⟨m, st, ρ, rs, re, h⟩ => h m H rs Mn.refl v (hv _ _ _)
end

/-! ### words for the printed walks -/
theorem bt_len : bootBuiltins "len" = some (.builtin "len") := by decide +kernel
theorem bt_abs : bootBuiltins "abs" = some (.builtin "abs") := by decide +kernel
theorem bt_max : bootBuiltins "max" = some (.builtin "max") := by decide +kernel
theorem bt_min : bootBuiltins "min" = some (.builtin "min") := by decide +kernel
theorem bt_sum : bootBuiltins "sum" = some (.builtin "sum") := by decide +kernel
theorem bt_int : bootBuiltins "int" = some (.type "int") := by decide +kernel
theorem bt_bool : bootBuiltins "bool" = some (.type "bool") := by decide +kernel
theorem bt_str : bootBuiltins "str" = some (.type "str") := by decide +kernel
theorem bt_list : bootBuiltins "list" = some (.type "list") := by decide +kernel
theorem bt_tuple : bootBuiltins "tuple" = some (.type "tuple") := by decide +kernel
theorem bt_ValueError : bootBuiltins "ValueError" = some (.type "ValueError") := by decide +kernel
theorem bt_TypeError : bootBuiltins "TypeError" = some (.type "TypeError") := by decide +kernel
theorem bt_Exception : bootBuiltins "Exception" = some (.type "Exception") := by decide +kernel
theorem huR {k : Nat} {A : Around} (r : Room k A) : A.units + 64 < cLine := by have := r.un; omega
theorem huH {k : Nat} {A : Around} (r : L2H.RoomH k A) : A.units + 64 < cLine := by have := r.un; omega
theorem roomMk {k : Nat} {A : Around} (r : Room k A) (h : Option Value) : L2H.RoomH k (A.mark h) := ⟨r.dp, r.un⟩
theorem hotSu {X : Cx} {a : Addr} {oe : Obj} {pn : List (Addr × Obj)} {cls : Value} {d : Option Addr} (hz : L2N.Zn cls d oe) (hd : ∃ vs, oe.data = .fields vs) : L2H.HotC (X.suite a ((a, oe) :: pn)) := by
  obtain ⟨vs, hv⟩ := hd
  exact ⟨(a, oe), ⟨rfl, vs, hv, hz.2.2 vs hv⟩, List.mem_cons_self⟩
section
variable {K : PySem.W.Frag} {x qual : Str} {params : Arguments} {body : List Stmt} {scope : Scope} {dvs : List V} {kws : List (Str × V)} {f : Addr} {fd : FuncData} {ps ks : List Str} {np : Nat} {sel : List Nat}
theorem kw_binds (F : FunD K x qual params body scope dvs kws f fd) (hd : dvs ≠ [])
    (h : ∀ (T : Addr) (kV doc pm : Value) (an : Option Addr) (cdv ct : Value) (us ws its : List Value), us.length + ws.length = np → ws.length = ks.length → its.length = dvs.length →
      ∃ k, bindArgs (PySem.W.fnOf x qual params body scope (.ref T) kV doc pm an cdv ct) ⟨us, ks.zip ws⟩ = seqItems? (.ref T) >>= k ∧ k (some its.toArray) = pure (ps.zip (pick sel (us ++ ws ++ its)))) :
    ∃ dus, Vals dvs dus ∧ ∀ (s : Shared) (us ws : List Value), K.In s.heap → us.length + ws.length = np → ws.length = ks.length → BindsTo s fd ⟨us, ks.zip ws⟩ (ps.zip (pick sel (us ++ ws ++ dus))) := by
  obtain ⟨oc, od, dV, kV, doc, pm, an, cdv, ct, osl, rfl, lk, hcd, hD, hK⟩ := F.ex
  rcases hD with ⟨e, _⟩ | ⟨_, T, o, its, m, rfl, lT, oT, rT⟩
  · exact absurd e hd
  · refine ⟨its, rT, fun s us ws X h1 h2 => ?_⟩
    obtain ⟨k, e1, e2⟩ := h T kV doc pm an cdv ct us ws its h1 h2 rT.length.symm
    refine BindsTo.of_looks fun M => ?_
    rw [e1]
    exact looks_items X lT oT (.of_pure e2)
end

theorem walk_ofM {l : PySem.W.OpenLaw} {n k : Nat} {q : Program} {loose : List Str} {XP : (Str → Option Value) → Heap → Prop} {YP : World → Heap → Prop} {d : DefRec} {x : Str}
    (hn : l.most = some n) (hn2 : n ≤ sizeLine) (hdf : d.params.defaults = []) (hr : Room k callerA)
    (F : ∀ (w : World) (mg : Str → Option Value) (fa : Addr) (h : Heap), YP w h → h.Ns mainGlobals mg → mg d.name = some (.ref fa) →
      ∃ (K : PySem.W.Frag) (fd : FuncData) (sp : Sp), K.In h ∧ (∀ (s : Shared) (u : Value), BindsTo s fd ⟨[u], []⟩ [(x, u)]) ∧
        (∀ (H : Hp) (a : Addr) (ns : List Int), ns.length ≤ n → Only H → SqL K H a (ns.map V.int) → sp [.ref a] H (fun v _ => v = .bl true) fun _ _ _ => False) ∧
        ∀ base : Heap, K.In base → base.Ns mainGlobals mg → FnOk l.prog w K mg base (L2N.CX l.prog w) k fa fd [x] sp) :
    PySem.W.WalkO q loose XP YP l.row.toRowW d [] (fun f vs => PySem.call f vs) := by
  refine Att.attach_call hn hdf fun w s₀ s₁ mg mb fa o pm cd doc a vs ns G Y ho hd hcd hmg hobj hints hlen hg => ?_
  obtain ⟨K, fd, sp, KX, hb, hsp, hF⟩ := F w mg fa _ Y G.T.g hmg
  exact law_call KX G.T.g G.T.b G.T.builtins G.T.nolimit hg hobj hints (Nat.le_trans hlen hn2) hr hF hb (fun H hO hS => hsp H a ns hlen hO hS) fun H e s' ⟨_, _, _, _, _, _, _, _, _, _, _, _, z⟩ => z

/-- the law's promise from its denotation -/
theorem sp_law {K : PySem.W.Frag} {mg : Str → Option Value} {g : List D → S → Out D} (n : Nat) (h : ∀ ns : List Int, ns.length ≤ n → ∃ st', g [.loc 0] [.fz (ns.map D.int)] = .ok (.bl true) st')
    (H : Hp) (a : Addr) (ns : List Int) (hl : ns.length ≤ n) (hO : Only H) (hS : SqL K H a (ns.map V.int)) : spG K mg g [.ref a] H (fun v _ => v = .bl true) fun _ _ _ => False := by
  have hf : FzL K H a (ns.map V.int) := by
    rcases hS with (h1 | ⟨o, h1⟩) | h2
    · rcases hO a with z | ⟨o, xs, z⟩
      · rw [z] at h1; cases h1
      · rw [z] at h1; cases h1
    · exact .inl ⟨o, h1⟩
    · exact .inr h2
  have hv : ∀ (l : List Int) (m : Nat → Addr) (j : Nat), RVs K m j H (l.map D.int) (l.map V.int) := by
    intro l m j
    induction l with
    | nil => exact rfl
    | cons i l ih => exact ⟨_, _, rfl, rfl, ih⟩
  refine ⟨fun _ => a, [.fz (ns.map D.int)], [.loc 0], ⟨fun k o e => ?_, fun i j oi oj ei ej mi mj q => ?_⟩, ⟨_, _, rfl, ⟨by simp, rfl⟩, rfl⟩, ?_⟩
  · cases k with
    | zero =>
      cases e
      exact ⟨_, hf, hv _ _ _⟩
    | succ k => simp at e
  · cases i with
    | zero =>
      cases ei
      cases mi
    | succ i => simp at ei
  · obtain ⟨st', e⟩ := h ns hl
    rw [e]
    exact fun m' H' r mn v rv => rv
end MP

set_option Elab.async false
set_option linter.all false
set_option maxRecDepth 100000
set_option maxHeartbeats 4000000
/-! MP8: equations for reckoning with denotations. -/
namespace MP
open PySem
def SO.then_ (o : SO) (k : En → S → SO) : SO := match o with
  | .nx ρ st => k ρ st
  | .rt d st => .rt d st
  | .bk ρ st => .bk ρ st
  | .ct ρ st => .ct ρ st
  | .ex e ρ st => .ex e ρ st
  | .bad => .bad
section
variable (k : En → S → SO) (ρ : En) (st : S) (d : D) (e : Ex)
@[simp] theorem then_nx : (SO.nx ρ st).then_ k = k ρ st := rfl
@[simp] theorem then_rt : (SO.rt d st).then_ k = .rt d st := rfl
@[simp] theorem then_bk : (SO.bk ρ st).then_ k = .bk ρ st := rfl
@[simp] theorem then_ct : (SO.ct ρ st).then_ k = .ct ρ st := rfl
@[simp] theorem then_ex : (SO.ex e ρ st).then_ k = .ex e ρ st := rfl
end
section
variable (ρ : En) (st : S)
@[simp] theorem sSkip_ap : sSkip ρ st = .nx ρ st := rfl
@[simp] theorem sSeq_ap (a b : FS) : sSeq a b ρ st = (a ρ st).then_ b := by unfold sSeq; cases a ρ st <;> rfl
@[simp] theorem sSet_ap (i : Nat) (e : FE) : sSet i e ρ st = (e ρ st).so ρ fun d st1 => .nx (ρ.set i (some d)) st1 := rfl
@[simp] theorem sExpr_ap (e : FE) : sExpr e ρ st = (e ρ st).so ρ fun _ st1 => .nx ρ st1 := rfl
@[simp] theorem sRet_ap (e : FE) : sRet e ρ st = (e ρ st).so ρ fun d st1 => .rt d st1 := rfl
@[simp] theorem sRetN_ap : sRetN ρ st = .rt .non st := rfl
@[simp] theorem sIf_ap (t : FT) (a b : FS) : sIf t a b ρ st = (t ρ st).so ρ fun c st1 => if c = true then a ρ st1 else b ρ st1 := rfl
@[simp] theorem sBreak_ap : sBreak ρ st = .bk ρ st := rfl
@[simp] theorem sCont_ap : sCont ρ st = .ct ρ st := rfl
@[simp] theorem sPar_ap (i j : Nat) (a : FA) : sPar i j a ρ st = (a ρ st).so ρ fun ds st1 => match ds with
  | [x, y] => .nx ((ρ.set i (some x)).set j (some y)) st1
  | _ => .bad := rfl
@[simp] theorem sAsg_ap (t : FG) (e : FE) : sAsg t e ρ st = (e ρ st).so ρ fun d st1 => match t d st1 ρ with
  | some ρ1 => .nx ρ1 st1
  | none => .bad := rfl
@[simp] theorem sRaise_ap (x : Str) (names : List Str) (a : FA) : sRaise x names a ρ st = (a ρ st).so ρ fun ds st1 => if ds.length = names.length then .ex ⟨x, st1.length⟩ ρ (st1 ++ [.xd (names.reverse.zip ds.reverse)]) else .bad := rfl
@[simp] theorem sStore_ap (o i e : FE) : sStore o i e ρ st = (e ρ st).so ρ fun d st1 => (o ρ st1).so ρ fun x st2 => (i ρ st2).so ρ fun y st3 => match gStore x y d st3 with
  | some st4 => .nx ρ st4
  | none => .bad := rfl
@[simp] theorem fC_ap (d : D) : fC d ρ st = .ok d st := rfl
@[simp] theorem fVar_ap (i : Nat) : fVar i ρ st = match ρ[i]? with
  | some (some d) => .ok d st
  | _ => .bad := rfl
@[simp] theorem fBin_ap (g : D → D → S → Option (D × S)) (a b : FE) : fBin g a b ρ st = (a ρ st).bind fun x st1 => (b ρ st1).bind fun y st2 => ofO (g x y st2) := rfl
@[simp] theorem fUn_ap (g : D → S → Option (D × S)) (a : FE) : fUn g a ρ st = (a ρ st).bind fun x st1 => ofO (g x st1) := rfl
@[simp] theorem fNil_ap : fNil ρ st = .ok [] st := rfl
@[simp] theorem fCons_ap (a : FE) (r : FA) : fCons a r ρ st = (a ρ st).bind fun x st1 => (r ρ st1).bind fun xs st2 => .ok (x :: xs) st2 := rfl
@[simp] theorem fTup_ap (a : FA) : fTup a ρ st = (a ρ st).bind fun ds st1 => .ok (.tup ds) st1 := rfl
@[simp] theorem fLst_ap (a : FA) : fLst a ρ st = (a ρ st).bind fun ds st1 => .ok (.loc st1.length) (st1 ++ [.lst ds]) := rfl
@[simp] theorem fArgs_ap (g : List D → S → Option (D × S)) (a : FA) : fArgs g a ρ st = (a ρ st).bind fun ds st1 => ofO (g ds st1) := rfl
@[simp] theorem fCall_ap (g : List D → S → Out D) (a : FA) : fCall g a ρ st = (a ρ st).bind fun ds st1 => g ds st1 := rfl
@[simp] theorem fLM_ap (g : D → List D → S → Option (D × S)) (o : FE) (a : FA) : fLM g o a ρ st = (o ρ st).bind fun x st1 => match x with
  | .loc n => match lstAt st1 n with
    | some _ => (a ρ st1).bind fun ds st2 => ofO (g (.loc n) ds st2)
    | none => .bad
  | _ => .bad := rfl
@[simp] theorem fIsB_ap (a : FE) : fIsB a ρ st = (a ρ st).bind fun x st1 => match x with
  | .bl b => .ok b st1
  | _ => .bad := rfl
@[simp] theorem fTru_ap (a : FE) : fTru a ρ st = (a ρ st).bind fun x st1 => match truD st1 x with
  | some b => .ok b st1
  | none => .bad := rfl
@[simp] theorem fAnd_ap (a b : FT) : fAnd a b ρ st = (a ρ st).bind fun x st1 => if x = true then b ρ st1 else .ok false st1 := rfl
@[simp] theorem fOr_ap (a b : FT) : fOr a b ρ st = (a ρ st).bind fun x st1 => if x = true then .ok true st1 else b ρ st1 := rfl
@[simp] theorem fNot_ap (a : FT) : fNot a ρ st = (a ρ st).bind fun x st1 => .ok (!x) st1 := rfl
@[simp] theorem fAndV_ap (a b : FE) : fAndV a b ρ st = (fIsB a ρ st).bind fun x st1 => if x = true then b ρ st1 else .ok (.bl false) st1 := rfl
@[simp] theorem fOrV_ap (a b : FE) : fOrV a b ρ st = (fIsB a ρ st).bind fun x st1 => if x = true then .ok (.bl true) st1 else b ρ st1 := rfl
@[simp] theorem fNotV_ap (a : FE) : fNotV a ρ st = (fIsB a ρ st).bind fun x st1 => .ok (.bl (!x)) st1 := rfl
@[simp] theorem fIf_ap (t : FT) (a b : FE) : fIf t a b ρ st = (t ρ st).bind fun x st1 => if x = true then a ρ st1 else b ρ st1 := rfl
@[simp] theorem fSl_ap (g : D → Option Int → Option Int → S → Option (D × S)) (a : FE) (lo hi : FO) : fSl g a lo hi ρ st = (a ρ st).bind fun x st1 => (lo ρ st1).bind fun l st2 => (hi ρ st2).bind fun u st3 => ofO (g x l u st3) := rfl
@[simp] theorem fNo_ap : fNo ρ st = .ok none st := rfl
@[simp] theorem fXf_ap (k : Nat) (e : Ex) (cs : List Str) (f : Str) (a : FE) : fXf k e cs f a ρ st = (a ρ st).bind (kXf k e cs f) := rfl
@[simp] theorem fIsX_ap (k : Nat) (e : Ex) (tb : List (Str × Bool)) (a : FE) : fIsX k e tb a ρ st = (a ρ st).bind (kIsX k e tb) := rfl
@[simp] theorem tgN_ap (i : Nat) (d : D) : tgN i d st ρ = some (ρ.set i (some d)) := rfl
end
def absI (i : Int) : Int := ((i.natAbs : Nat) : Int)
section
variable (st : S) (i j : Int) (a b : D) (r : List D)
@[simp] theorem truD_bl (x : Bool) : truD st (.bl x) = some x := rfl
@[simp] theorem truD_int : truD st (.int i) = some (i != 0) := rfl
@[simp] theorem gAdd_int : gAdd (.int i) (.int j) st = some (.int (i + j), st) := rfl
@[simp] theorem gSub_int : gSub (.int i) (.int j) st = some (.int (i - j), st) := rfl
@[simp] theorem gMul_int : gMul (.int i) (.int j) st = if MulOk i j then some (.int (i * j), st) else none := rfl
@[simp] theorem gDiv_int : gDiv (.int i) (.int j) st = if DivOk j then some (.int (i / j), st) else none := rfl
@[simp] theorem gMod_int : gMod (.int i) (.int j) st = if 0 < j then some (.int (i % j), st) else none := rfl
@[simp] theorem gPow_int : gPow (.int i) (.int j) st = if 0 ≤ j ∧ j ≤ 1000000 ∧ i.natAbs < 2 ^ 64 then some (.int (i ^ j.toNat), st) else none := rfl
@[simp] theorem gNeg_int : gNeg (.int i) st = some (.int (-i), st) := rfl
@[simp] theorem gLt_int : gLt (.int i) (.int j) st = some (.bl (decide (i < j)), st) := rfl
@[simp] theorem gLe_int : gLe (.int i) (.int j) st = some (.bl (decide (i ≤ j)), st) := rfl
@[simp] theorem gGt_int : gGt (.int i) (.int j) st = some (.bl (decide (j < i)), st) := rfl
@[simp] theorem gGe_int : gGe (.int i) (.int j) st = some (.bl (decide (j ≤ i)), st) := rfl
@[simp] theorem gEq_int : gEq (.int i) (.int j) st = some (.bl (decide (i = j)), st) := rfl
@[simp] theorem gNe_int : gNe (.int i) (.int j) st = some (.bl (!decide (i = j)), st) := rfl
@[simp] theorem gIs_bl (x y : Bool) : gIs (.bl x) (.bl y) st = some (.bl (decide (x = y)), st) := rfl
@[simp] theorem gIsNot_bl (x y : Bool) : gIsNot (.bl x) (.bl y) st = some (.bl (!decide (x = y)), st) := rfl
@[simp] theorem gLen_tup (xs : List D) : gLen [.tup xs] st = some (.int xs.length, st) := rfl
theorem gLen_loc {n : Nat} {xs : List D} (h : lstAt st n = some xs) : gLen [.loc n] st = some (.int xs.length, st) := by unfold gLen; simp only [h]
@[simp] theorem gAbs_int : gAbs [.int i] st = some (.int (absI i), st) := by
  show some (D.int (if i < 0 then -i else i), st) = _
  have : (if i < 0 then -i else i) = absI i := by unfold absI; split <;> omega
  rw [this]
@[simp] theorem gInt_int : gInt [.int i] st = some (.int i, st) := rfl
@[simp] theorem gGcd_int : gGcd [.int i, .int j] st = some (.int ((Nat.gcd i.natAbs j.natAbs : Nat) : Int), st) := rfl
@[simp] theorem gStr_int : gStr [.int i] st = if i.natAbs.log2 < 1920 then some (.str (toString i), st) else none := rfl
@[simp] theorem gIx_tup (xs : List D) : gIx (.tup xs) (.int i) st = (L2.atI xs i).map fun d => (d, st) := rfl
theorem gIx_loc {n : Nat} {xs : List D} (h : lstAt st n = some xs) : gIx (.loc n) (.int i) st = (L2.atI xs i).map fun d => (d, st) := by unfold gIx; simp only [h]
@[simp] theorem atI_0 : L2.atI (a :: r) 0 = some a := by unfold L2.atI L2.ixN; simp
@[simp] theorem atI_1 : L2.atI (a :: b :: r) 1 = some b := by
  unfold L2.atI L2.ixN
  have h1 : (1 : Int) < ((a :: b :: r).length : Int) := by simp only [List.length_cons]; omega
  rw [if_pos (by decide), if_pos h1]
  rfl
theorem atI_nat {xs : List D} {k : Nat} {d : D} (h : xs[k]? = some d) : L2.atI xs (k : Int) = some d := by
  have hk : k < xs.length := (List.getElem?_eq_some_iff.mp h).1
  unfold L2.atI L2.ixN
  have h1 : (0 : Int) ≤ k := Int.natCast_nonneg k
  have h2 : (k : Int) < xs.length := by omega
  simp only [h1, h2, if_true, Option.bind_some, Int.toNat_natCast]
  first | exact h | simp [h]
@[simp] theorem gIsi_non (T : String) : gIsi T .non st = some (.bl (isiT T "NoneType"), st) := rfl
@[simp] theorem gIsi_bl (T : String) (x : Bool) : gIsi T (.bl x) st = some (.bl (isiT T "bool"), st) := rfl
@[simp] theorem gIsi_int (T : String) : gIsi T (.int i) st = some (.bl (isiT T "int"), st) := rfl
@[simp] theorem gIsi_str (T : String) (x : Str) : gIsi T (.str x) st = some (.bl (isiT T "str"), st) := rfl
@[simp] theorem gIsi_tup (T : String) (xs : List D) : gIsi T (.tup xs) st = some (.bl (isiT T "tuple"), st) := rfl
theorem gIsi_loc {T : String} {n : Nat} {xs : List D} (h : lstAt st n = some xs) : gIsi T (.loc n) st = some (.bl (isiT T "list"), st) := by unfold gIsi; simp only [h]
@[simp] theorem isiT_tt : isiT "tuple" "tuple" = true := by decide
@[simp] theorem isiT_ti : isiT "tuple" "int" = false := by decide
@[simp] theorem isiT_tn : isiT "tuple" "NoneType" = false := by decide
@[simp] theorem isiT_tb : isiT "tuple" "bool" = false := by decide
@[simp] theorem isiT_ts : isiT "tuple" "str" = false := by decide
@[simp] theorem isiT_tl : isiT "tuple" "list" = false := by decide
@[simp] theorem isiT_ii : isiT "int" "int" = true := by decide
@[simp] theorem isiT_ib : isiT "int" "bool" = true := by decide
@[simp] theorem isiT_in : isiT "int" "NoneType" = false := by decide
@[simp] theorem isiT_is : isiT "int" "str" = false := by decide
@[simp] theorem isiT_it : isiT "int" "tuple" = false := by decide
@[simp] theorem isiT_il : isiT "int" "list" = false := by decide
@[simp] theorem isiT_bb : isiT "bool" "bool" = true := by decide
@[simp] theorem isiT_bi : isiT "bool" "int" = false := by decide
@[simp] theorem isiT_bn : isiT "bool" "NoneType" = false := by decide
@[simp] theorem isiT_bs : isiT "bool" "str" = false := by decide
@[simp] theorem isiT_bt : isiT "bool" "tuple" = false := by decide
@[simp] theorem isiT_ll : isiT "list" "list" = true := by decide
@[simp] theorem isiT_lt : isiT "list" "tuple" = false := by decide
end
theorem den_rt {n : Nat} {f : FS} {ds : List D} {st st' : S} {d : D} (h : f (ds.map some ++ List.replicate (n - ds.length) none) st = .rt d st') : den n f ds st = .ok d st' := by
  unfold den
  rw [h]
theorem den_nx {n : Nat} {f : FS} {ds : List D} {st st' : S} {ρ : En} (h : f (ds.map some ++ List.replicate (n - ds.length) none) st = .nx ρ st') : den n f ds st = .ok .non st' := by
  unfold den
  rw [h]
theorem den_ex {n : Nat} {f : FS} {ds : List D} {st st' : S} {ρ : En} {e : Ex} (h : f (ds.map some ++ List.replicate (n - ds.length) none) st = .ex e ρ st') : den n f ds st = .exc e st' := by
  unfold den
  rw [h]
def SO.out : SO → Out D
  | .rt d st => .ok d st
  | .nx _ st => .ok .non st
  | .ex e _ st => .exc e st
  | _ => .bad
@[simp] theorem out_rt (d : D) (st : S) : (SO.rt d st).out = .ok d st := rfl
@[simp] theorem out_nx (ρ : En) (st : S) : (SO.nx ρ st).out = .ok .non st := rfl
@[simp] theorem out_ex (e : Ex) (ρ : En) (st : S) : (SO.ex e ρ st).out = .exc e st := rfl
theorem den_ap (n : Nat) (f : FS) (ds : List D) (st : S) : den n f ds st = (f (ds.map some ++ List.replicate (n - ds.length) none) st).out := by
  unfold den
  cases f (ds.map some ++ List.replicate (n - ds.length) none) st <;> rfl
/-- MulOk of not too large numbers -/
theorem mulok_small {i j : Int} (hi : i.natAbs < 2 ^ 400000) (hj : j.natAbs < 2 ^ 400000) : MulOk i j := by
  refine Or.inr ?_
  show i.natAbs.log2 + j.natAbs.log2 < 1000000
  have h : ∀ n : Nat, n < 2 ^ 400000 → n.log2 < 400000 := fun n h => by
    by_cases h0 : n = 0
    · subst h0; rw [Nat.log2_zero]; omega
    · exact (Nat.log2_lt h0).mpr h
  have := h _ hi
  have := h _ hj
  omega
theorem mulok_r {i j : Int} (h1 : -(2 ^ 64) < j) (h2 : j < 2 ^ 64) : MulOk i j := Or.inl (Or.inr ⟨h1, h2⟩)
theorem mulok_l {i j : Int} (h1 : -(2 ^ 64) < i) (h2 : i < 2 ^ 64) : MulOk i j := Or.inl (Or.inl ⟨h1, h2⟩)
theorem divok_small {j : Int} (h1 : 0 < j) (h2 : j.natAbs < 2 ^ 8000) : DivOk j := by
  refine ⟨h1, ?_⟩
  have h0 : j.natAbs ≠ 0 := by omega
  have := (Nat.log2_lt h0).mpr h2
  omega
end MP

set_option Elab.async false
set_option linter.all false
set_option maxRecDepth 100000
set_option maxHeartbeats 4000000
/-! MP9: the store in reckoning; loops. -/
namespace MP
open PySem
section
variable {st : S} {n : Nat} {xs : List D} {d : D}
theorem lstAt_lst (h : st[n]? = some (.lst xs)) : lstAt st n = some xs := by unfold lstAt; simp only [h]
theorem lstAt_fz (h : st[n]? = some (.fz xs)) : lstAt st n = some xs := by unfold lstAt; simp only [h]
@[simp] theorem ixN_0 (k : Nat) : L2.ixN (k + 1) 0 = some 0 := by unfold L2.ixN; simp
@[simp] theorem ixN_1 (k : Nat) : L2.ixN (k + 1 + 1) 1 = some 1 := by
  unfold L2.ixN
  rw [if_pos (by decide), if_pos (by omega)]
  rfl
@[simp] theorem ixN_2 (k : Nat) : L2.ixN (k + 1 + 1 + 1) 2 = some 2 := by
  unfold L2.ixN
  rw [if_pos (by decide), if_pos (by omega)]
  rfl
@[simp] theorem atI_2 (a b c : D) (r : List D) : L2.atI (a :: b :: c :: r) 2 = some c := by unfold L2.atI; simp
theorem gStore_loc {k : Int} {j : Nat} (h : st[n]? = some (.lst xs)) (hj : L2.ixN xs.length k = some j) : gStore (.loc n) (.int k) d st = some (st.set n (.lst (xs.set j d))) := by
  unfold gStore
  simp only [h, hj, Option.map_some]
theorem gPop_at {k : Int} {j : Nat} (h : st[n]? = some (.lst xs)) (hk : -(2 ^ 63) ≤ k ∧ k < 2 ^ 63) (hj : seqIndex? k xs.length = some j) (hd : xs[j]? = some d) : gPop (.loc n) [.int k] st = some (d, st.set n (.lst (xs.eraseIdx j))) := by
  unfold gPop
  simp only [h, hk, and_self, if_true, hj, hd, Option.map_some]
theorem gAppend_loc (h : st[n]? = some (.lst xs)) (hl : xs.length < sizeLine) : gAppend (.loc n) [d] st = some (.non, st.set n (.lst (xs ++ [d]))) := by
  unfold gAppend
  simp only [h, hl, if_true]
theorem gInsert_loc {i : Nat} (h : st[n]? = some (.lst xs)) (hl : xs.length < sizeLine) (hi : i ≤ xs.length) : gInsert (.loc n) [.int i, d] st = some (.non, st.set n (.lst (xs.take i ++ [d] ++ xs.drop i))) := by
  unfold gInsert
  have h1 : sizeLine = 16777216 := sizeLine_eq
  have h2 : (0 : Int) ≤ i ∧ (i : Int) < 2 ^ 63 := ⟨by omega, by omega⟩
  simp only [h, hl, h2, and_self, if_true, Int.toNat_natCast]
theorem set_at {o : Ob} (h : n < st.length) : (st.set n o)[n]? = some o := by
  rw [List.getElem?_set_self h]
theorem set_ne {o : Ob} {k : Nat} (h : k ≠ n) : (st.set n o)[k]? = st[k]? := List.getElem?_set_ne (Ne.symm h)
theorem app_old {o : Ob} {k : Nat} {ob : Ob} (h : st[k]? = some ob) : (st ++ [o])[k]? = some ob := by
  rw [List.getElem?_append_left (List.getElem?_eq_some_iff.mp h).1]
  exact h
theorem app_new {o : Ob} : (st ++ [o])[st.length]? = some o := by simp
theorem lt_of_at {ob : Ob} (h : st[n]? = some ob) : n < st.length := (List.getElem?_eq_some_iff.mp h).1
end
/-! ### loops -/
theorem sLoop_nil {chk : S → Bool} {t : FG} {body : FS} {ρ : En} {st : S} : sLoop chk t body [] ρ st = if chk st = true then .nx ρ st else .bad := rfl
/-- a loop that runs through: I holds ahead of each turn (done, to come) -/
theorem loop_inv {chk : S → Bool} {t : FG} {body : FS} (I : List D → List D → En → S → Prop)
    (hstep : ∀ don d ds ρ st, I don (d :: ds) ρ st → chk st = true ∧ ∃ ρ1, t d st ρ = some ρ1 ∧ ∃ ρ2 st2, (body ρ1 st = .nx ρ2 st2 ∨ body ρ1 st = .ct ρ2 st2) ∧ I (don ++ [d]) ds ρ2 st2)
    (hend : ∀ don ρ st, I don [] ρ st → chk st = true) : ∀ (ds don : List D) (ρ : En) (st : S), I don ds ρ st → ∃ ρ' st', sLoop chk t body ds ρ st = .nx ρ' st' ∧ I (don ++ ds) [] ρ' st'
  | [], don, ρ, st, h => ⟨ρ, st, by rw [sLoop_nil, if_pos (hend _ _ _ h)], by rw [List.append_nil]; exact h⟩
  | d :: ds, don, ρ, st, h => by
    obtain ⟨hc, ρ1, ht, ρ2, st2, hb, hI⟩ := hstep don d ds ρ st h
    obtain ⟨ρ', st', h1, h2⟩ := loop_inv I hstep hend ds (don ++ [d]) ρ2 st2 hI
    refine ⟨ρ', st', ?_, by rw [List.append_assoc] at h2; exact h2⟩
    unfold sLoop
    rw [if_pos hc, ht]
    rcases hb with hb | hb <;> (simp only [hb]; exact h1)
theorem rangeD_len (n : Nat) : (rangeD 0 n).length = n := by unfold rangeD; simp

theorem sForR1_ok {a : FA} {t : FG} {body : FS} {ρ : En} {st st1 : S} {j : Int} (h : a ρ st = .ok [.int j] st1) (hs : Small62 j) : sForR1 a t body ρ st = sLoop (fun _ => true) t body (rangeD 0 j) ρ st1 := by
  unfold sForR1
  rw [h]
  simp only [Out.so_ok]
  rw [if_pos hs]
theorem sFor_loc {e : FE} {t : FG} {body : FS} {ρ : En} {st st1 : S} {n : Nat} {ds : List D} (h : e ρ st = .ok (.loc n) st1) (hl : lstAt st1 n = some ds) : sFor e t body ρ st = sLoop (fun s => decide (lstAt s n = some ds)) t body ds ρ st1 := by
  unfold sFor
  rw [h]
  simp only [Out.so_ok, hl]
theorem sFor_tup {e : FE} {t : FG} {body : FS} {ρ : En} {st st1 : S} {ds : List D} (h : e ρ st = .ok (.tup ds) st1) : sFor e t body ρ st = sLoop (fun _ => true) t body ds ρ st1 := by
  unfold sFor
  rw [h]
  simp only [Out.so_ok]
theorem small_nat {n : Nat} (h : n < 1000000) : Small62 (n : Int) := by unfold Small62; omega
end MP

set_option Elab.async false
set_option linter.all false
set_option maxRecDepth 100000
set_option maxHeartbeats 4000000
/-! MPT: texts: methods of one text argument. -/
namespace MP
open PySem L2
def rM1 (K : PySem.W.Frag) (g : D → D → S → Option (D × S)) : V → List V → Hp → VK → Prop := fun x xs H Q => ∃ m st dx dy d st' y, xs = [y] ∧ RS K m st H ∧ RV K m st.length H dx x ∧ RV K m st.length H dy y ∧ g dx dy st = some (d, st') ∧ Fin K m st H d st' Q
def gFind (x y : D) (st : S) : Option (D × S) := match x, y with
  | .str a, .str b => some (.int (Txt.find a b), st)
  | _, _ => none
def gStarts (x y : D) (st : S) : Option (D × S) := match x, y with
  | .str a, .str b => some (.bl (Txt.startswith a b), st)
  | _, _ => none
def gSplit (x y : D) (st : S) : Option (D × S) := match x, y with
  | .str a, .str b => if (b.length == 0) = false ∧ a.length + 2 ≤ sizeLine then some (.loc st.length, st ++ [.lst ((Txt.split a b).map D.str)]) else none
  | _, _ => none
section
variable {X : Cx} {W : Wc} {o e : Expr} {fo fa : FE}
theorem mtd_find : MtR X "str.find" (rM1 X.K gFind) := by
  intro pins s σ H x xs v us Q I rx rv h
  obtain ⟨m, st, dx, dy, d, st', y, rfl, rs, r1, r2, e, fin⟩ := h
  unfold gFind at e
  split at e
  · cases r1; cases r2; cases e
    exact mt_find pins s σ H _ _ v us Q I rx rv ⟨_, _, rfl, rfl, fin.here rs rfl⟩
  · cases e
theorem mtd_starts : MtR X "str.startswith" (rM1 X.K gStarts) := by
  intro pins s σ H x xs v us Q I rx rv h
  obtain ⟨m, st, dx, dy, d, st', y, rfl, rs, r1, r2, e, fin⟩ := h
  unfold gStarts at e
  split at e
  · cases r1; cases r2; cases e
    exact mt_startswith pins s σ H _ _ v us Q I rx rv ⟨_, _, rfl, rfl, fin.here rs rfl⟩
  · cases e
def fM1 (g : D → D → S → Option (D × S)) (o a : FE) : FE := fun ρ st => (o ρ st).bind fun x st1 => match x with
  | .str _ => (a ρ st1).bind fun y st2 => ofO (g x y st2)
  | _ => .bad
theorem je_m1 {id : String} {name : Str} {apos pos : Pos} {g : D → D → S → Option (D × S)} (slot : Slot "str" name id) (ty : typeOf (.builtin id) = pure (.type "method_descriptor")) (rule : MtR X id (rM1 X.K g)) (ho : JE X W o fo) (he : JE X W e fa)
    (hs : starEach [e] X.env = [(false, eval e X.env)] := by rfl) (hbase : attributeBase o name X.env (eval o X.env) = eval o X.env := by rfl) (hline : (apos.endLine == pos.line) = true := by rfl) :
    JE X W (.Call (.Attribute o name apos) [e] [] pos) (fM1 g fo fa) := by
  refine pe_imp (pe_m1 slot ty rule ho he hs hbase hline) fun σ H Q h => ?_
  obtain ⟨m, st, ρ, rs, re, h⟩ := h
  refine re_bind (α := D) (k := fun x st1 ρ => match x with | .str _ => (fa ρ st1).bind fun y st2 => ofO (g x y st2) | _ => .bad) rs re h fun x st1 m1 H1 v1 r1 re1 mn1 rv1 h1 => ?_
  cases x with
  | str a =>
    obtain rfl : v1 = .str a := rv1
    refine ⟨⟨a, rfl⟩, ?_⟩
    refine re_bind (k := fun y st2 ρ => ofO (g (.str a) y st2)) r1 re1 h1 fun y st2 m2 H2 v2 r2 re2 mn2 rv2 h2 => ?_
    obtain ⟨d, st', e, fin⟩ := meet_fin h2
    exact ⟨m2, st2, .str a, y, d, st', v2, rfl, r2, rfl, rv2, e, fin⟩
  | _ => exact h1.elim
theorem mtd_split : MtR X "str.split" (rM1 X.K gSplit) := by
  intro pins s σ H x xs v us Q I rx rv h
  obtain ⟨m, st, dx, dy, d, st', y, rfl, rs, r1, r2, e, fin⟩ := h
  unfold gSplit at e
  split at e
  · cases r1; cases r2
    split at e
    · rename_i a b hc
      cases e
      have hv : ∀ l : List Str, RVs X.K m st.length H (l.map D.str) (l.map V.str) := fun l => by
        induction l with
        | nil => exact rfl
        | cons x l ih => exact ⟨_, _, rfl, rfl, ih⟩
      exact mt_split pins s σ H _ _ v us Q I rx rv ⟨_, _, rfl, rfl, hc.1, hc.2, fun p hp => fin.lst rs (hv _) hp⟩
    · cases e
  · cases e
/-- c in x, c not in x: c a text of one sign -/
def inS (n : Bool) (x y : D) (st : S) : Option (D × S) := match x, y with
  | .str a, .str z => (match a.cps.toList with
    | [c] => some (.bl (if n then !decide (c ∈ z.cps.toList) else decide (c ∈ z.cps.toList)), st)
    | _ => none)
  | _, _ => none
theorem one_sign {a : Str} {c : Nat} (h : a.cps.toList = [c]) : a = ⟨#[c]⟩ := by
  obtain ⟨⟨l⟩⟩ := a
  simp only at h
  rw [h]
theorem opd_inS : OpR X (compareOp .In) (rD X.K (inS false)) := by
  intro pins s σ H x y v u Q I rx ry h
  obtain ⟨m, st, dx, dy, d, st', rs, r1, r2, e, fin⟩ := h
  unfold inS at e
  split at e
  · cases r1; cases r2
    split at e
    · rename_i hc
      cases e
      rw [one_sign hc] at rx
      exact op_in_sign pins s σ H _ _ v u Q I rx ry ⟨_, _, rfl, rfl, fin.here rs rfl⟩
    · cases e
  · cases e
theorem opd_notInS : OpR X (compareOp .NotIn) (rD X.K (inS true)) := by
  intro pins s σ H x y v u Q I rx ry h
  obtain ⟨m, st, dx, dy, d, st', rs, r1, r2, e, fin⟩ := h
  unfold inS at e
  split at e
  · cases r1; cases r2
    split at e
    · rename_i hc
      cases e
      rw [one_sign hc] at rx
      exact op_notIn_sign pins s σ H _ _ v u Q I rx ry ⟨_, _, rfl, rfl, fin.here rs rfl⟩
    · cases e
  · cases e
/-- int(x) of a text -/
def gIntS (ds : List D) (st : S) : Option (D × S) := match ds with
  | [.str a] => (match PySem.intText? a with
    | some n => if a.length ≤ 640 then some (.int n, st) else none
    | none => none)
  | ds => gInt ds st
theorem cad_intS : CallR X (.type "int") (rDL X.K gIntS) := by
  intro pins s σ H xs us Q I r h
  obtain ⟨m, st, ds, d, st', rs, r1, e, fin⟩ := h
  unfold gIntS at e
  split at e
  · rename_i a
    split at e
    · rename_i n hn
      split at e
      · rename_i hl
        cases e
        obtain ⟨v, w, rfl, hv, hw⟩ := r1
        cases hv; cases hw
        exact call_int_str pins s σ H _ us Q I r ⟨_, n, rfl, hn, hl, fin.here rs rfl⟩
      · cases e
    · cases e
  · exact cad_int pins s σ H xs us Q I r ⟨m, st, _, d, st', rs, r1, e, fin⟩
/-- {x} in an f-string -/
def fFmt (a : FE) : FE := fun ρ st => (a ρ st).bind fun x st1 => match x with
  | .str y => if y.length ≤ sizeLine then .ok (.str y) st1 else .bad
  | .int i => if i.natAbs.log2 < 1920 then .ok (.str (toString i)) st1 else .bad
  | _ => .bad
theorem je_fmt {pos : Pos} (he : JE X W e fa) : JE X W (.FormattedValue e (-1) none pos) (fFmt fa) := by
  refine pe_imp (pe_fmt he) fun σ H Q h => ?_
  obtain ⟨m, st, ρ, rs, re, h⟩ := h
  refine re_bind (α := D) (k := fun x st1 ρ => match x with | .str y => if y.length ≤ sizeLine then .ok (.str y) st1 else .bad | .int i => if i.natAbs.log2 < 1920 then .ok (.str (toString i)) st1 else .bad | _ => .bad) rs re h fun x st1 m1 H1 v1 r1 re1 mn1 rv1 h1 => ?_
  cases x with
  | str y =>
    obtain rfl : v1 = .str y := rv1
    simp only at h1
    split at h1
    · rename_i hz
      exact .inl ⟨y, rfl, hz, h1 m1 H1 r1 Mn.refl _ rfl⟩
    · exact h1.elim
  | int i =>
    obtain rfl : v1 = .int i := rv1
    simp only at h1
    split at h1
    · rename_i hz
      exact .inr ⟨i, rfl, hz, h1 m1 H1 r1 Mn.refl _ rfl⟩
    · exact h1.elim
  | _ => exact h1.elim
end
def fJs : List FE → Str → FE
  | [], acc => fun _ st => .ok (.str acc) st
  | f :: r, acc => fun ρ st => (f ρ st).bind fun x st1 => match x with
    | .str y => if (acc ++ y).length ≤ sizeLine then fJs r (acc ++ y) ρ st1 else .bad
    | _ => .bad
inductive JP (X : Cx) (W : Wc) : List Expr → List FE → Prop
  | nil : JP X W [] []
  | cons {e : Expr} {f : FE} {es : List Expr} {fs : List FE} (h : JE X W e f) (r : JP X W es fs) : JP X W (e :: es) (f :: fs)
section
variable {X : Cx} {W : Wc}
theorem JP.pj {es : List Expr} {fs : List FE} (h : JP X W es fs) : PJ X es (fs.map (rE X.K X.mg W)) := by
  induction h with
  | nil => exact .nil
  | cons h _ ih => exact .cons h ih
theorem js_imp : ∀ (fs : List FE) (acc : Str) {σ : L2.St} {H : Hp} {Q : VK}, rE X.K X.mg W (fJs fs acc) σ H Q → tJs (fs.map (rE X.K X.mg W)) acc σ H fun out H1 => Q (.str out) H1
  | [], acc, σ, H, Q, ⟨m, st, ρ, rs, re, h⟩ => h m H rs Mn.refl _ rfl
  | f :: fs, acc, σ, H, Q, ⟨m, st, ρ, rs, re, h⟩ => by
    refine re_bind (α := D) (k := fun x st1 ρ => match x with | .str y => if (acc ++ y).length ≤ sizeLine then fJs fs (acc ++ y) ρ st1 else .bad | _ => .bad) rs re h fun x st1 m1 H1 v1 r1 re1 mn1 rv1 h1 => ?_
    cases x with
    | str y =>
      obtain rfl : v1 = .str y := rv1
      simp only at h1
      split at h1
      · rename_i hz
        exact ⟨y, rfl, hz, js_imp fs (acc ++ y) ⟨m1, st1, ρ, r1, re1, h1⟩⟩
      · exact h1.elim
    | _ => exact h1.elim
theorem je_joined {v1 v2 : Expr} {rest : List Expr} {fs : List FE} {pos : Pos} (h : JP X W (v1 :: v2 :: rest) fs) : JE X W (.JoinedStr (v1 :: v2 :: rest) pos) (fJs fs Str.empty) :=
  pe_imp (pe_joined h.pj) fun σ H Q h => js_imp fs _ h
end

def strB (x z : Str) : FrB := faB (.str x z)
theorem str_of {K : PySem.W.Frag} {h : Heap} {mg : Str → Option Value} (X : K.In h) (G : h.Ns mainGlobals mg) {x z : Str} (c : strB x z K = true) : ∃ u, mg x = some u ∧ KD K (.str z) u := by
  obtain ⟨t, e⟩ := He.str_ok X G c
  exact ⟨_, e, .str z, ⟨t, rfl⟩, fun _ _ _ => rfl⟩
theorem sl_find : Slot "str" "find" "str.find" := PySem.F.slot_str_find
theorem sl_startswith : Slot "str" "startswith" "str.startswith" := PySem.F.slot_str_startswith
theorem sl_split : Slot "str" "split" "str.split" := PySem.F.slot_str_split
theorem ty_find : typeOf (.builtin "str.find") = pure (.type "method_descriptor") := PySem.F.type_str_find
theorem ty_startswith : typeOf (.builtin "str.startswith") = pure (.type "method_descriptor") := PySem.F.type_str_startswith
theorem ty_split : typeOf (.builtin "str.split") = pure (.type "method_descriptor") := PySem.F.type_str_split
end MP

set_option Elab.async false
set_option linter.all false
set_option maxRecDepth 100000
set_option maxHeartbeats 4000000
/-! MPL: what is walked (sources), loops over them, list comprehensions. -/
namespace MP
open PySem L2
abbrev FI := En → S → Out (List D × (S → Bool))
def Serves (K : PySem.W.Frag) (m0 : Nat → Addr) (n0 : Nat) (H0 : Hp) (J : It) (ds : List D) (chk : S → Bool) : Prop :=
  ∀ m st H, RS K m st H → Mn K m0 n0 H0 m st.length H → chk st = true →
    (∀ i d, ds[i]? = some d → J.go i H ∧ ∀ x H', J.yld i H x H' → RS K m st H' ∧ Mn K m st.length H m st.length H' ∧ RV K m st.length H' d x) ∧ J.stop ds.length H
def rI (K : PySem.W.Frag) (mg : Str → Option Value) (W : Wc) (f : FI) : TI := fun σ H R => ∃ m st ρ, RS K m st H ∧ RE W.gh K m st.length H ρ σ ∧
  Meet K mg m st.length H (f ρ st) (fun p st' m' H' => ∀ J, Serves K m' st'.length H' J p.1 p.2 → R J H') (fun cls od H' => W.W cls od σ H')
abbrev JI (X : Cx) (W : Wc) (tg e : Expr) (f : FI) : Prop := PI X tg e (rI X.K X.mg W f)
theorem pi_imp {X : Cx} {tg e : Expr} {t t' : TI} (h : PI X tg e t) (hi : ∀ σ H R, t' σ H R → t σ H R) : PI X tg e t' := ⟨fun pins s σ H R I hw => h.run pins s σ H R I (hi σ H R hw)⟩
/-! ### loops -/
theorem loopS {K : PySem.W.Frag} {mg : Str → Option Value} {W : Wc} {J : It} {ds : List D} {chk : S → Bool} {g : FG} {body : FS} {E : Ends} {m0 : Nat → Addr} {n0 : Nat} {H0 : Hp} (hJ : Serves K m0 n0 H0 J ds chk)
    {m : Nat → Addr} {st : S} {ρ : En} {σ : L2.St} {H : Hp} (rs : RS K m st H) (re : RE W.gh K m st.length H ρ σ) (r0 : Mn K m0 n0 H0 m st.length H) (h : MeetS K mg W m st.length H (sLoop chk g body ds ρ st) E) :
    ∃ Wd : Nat → Nat → L2.St → Hp → Prop, (∃ k, Wd 0 k σ H) ∧ ∀ i k σ H, Wd i k σ H → (J.stop i H ∧ E.nx σ H) ∨ (J.go i H ∧ ∃ N : L2.St → Hp → Prop, (∀ σ' H', N σ' H' → ∃ k', k' < k ∧ Wd (i + 1) k' σ' H') ∧ ∀ x H', J.yld i H x H' → rG K W g x σ H' fun σ2 H2 => rS K mg W body { E with nx := N, ct := N, bk := E.nx } σ2 H2) := by
  refine ⟨fun i k σ H => k = ds.length - i ∧ i ≤ ds.length ∧ ∃ m st ρ, RS K m st H ∧ RE W.gh K m st.length H ρ σ ∧ Mn K m0 n0 H0 m st.length H ∧ MeetS K mg W m st.length H (sLoop chk g body (ds.drop i) ρ st) E, ⟨_, rfl, Nat.zero_le _, m, st, ρ, rs, re, r0, h⟩, ?_⟩
  rintro i k σ H ⟨rfl, hi, m, st, ρ, rs, re, r0, h⟩
  by_cases hlt : i < ds.length
  · have e : ds.drop i = ds[i] :: ds.drop (i + 1) := List.drop_eq_getElem_cons hlt
    rw [e] at h
    unfold sLoop at h
    by_cases hc : chk st = true
    · rw [if_pos hc] at h
      have hd : ds[i]? = some ds[i] := List.getElem?_eq_getElem hlt
      obtain ⟨j1, j2⟩ := (hJ m st H rs r0 hc).1 i ds[i] hd
      refine .inr ⟨j1, fun σ' H' => ∃ m st ρ, RS K m st H' ∧ RE W.gh K m st.length H' ρ σ' ∧ Mn K m0 n0 H0 m st.length H' ∧ MeetS K mg W m st.length H' (sLoop chk g body (ds.drop (i + 1)) ρ st) E, fun σ' H' z => ⟨ds.length - (i + 1), by omega, rfl, hlt, z⟩, fun x H' y => ?_⟩
      obtain ⟨rs', mn', rv'⟩ := j2 x H' y
      have h := MeetS.later h mn'
      have re' := re.mono mn'
      have r0' := r0.trans mn'
      cases q : g ds[i] st ρ with
      | none => rw [q] at h; exact h.elim
      | some ρ1 =>
        rw [q] at h
        refine ⟨m, st, ρ, ds[i], ρ1, rs', re', rv', q, fun σ1 re1 => ⟨m, st, ρ1, rs', re1, ?_⟩⟩
        cases b : body ρ1 st with
        | nx ρ2 st2 =>
          simp only [b] at h
          exact fun m2 H2 σ2 r2 mn2 re2 => ⟨m2, st2, ρ2, r2, re2, r0'.trans mn2, MeetS.later h mn2⟩
        | ct ρ2 st2 =>
          simp only [b] at h
          exact fun m2 H2 σ2 r2 mn2 re2 => ⟨m2, st2, ρ2, r2, re2, r0'.trans mn2, MeetS.later h mn2⟩
        | bk ρ2 st2 => simp only [b] at h; exact h
        | rt d st2 => simp only [b] at h; exact h
        | ex e ρ2 st2 => simp only [b] at h; exact h
        | bad => simp only [b] at h; exact h
    · rw [if_neg hc] at h; exact h.elim
  · have e : i = ds.length := by omega
    subst e
    rw [List.drop_length] at h
    unfold sLoop at h
    by_cases hc : chk st = true
    · rw [if_pos hc] at h
      exact .inl ⟨(hJ m st H rs r0 hc).2, h m H σ rs Mn.refl re⟩
    · rw [if_neg hc] at h; exact h.elim
def sForI (fi : FI) (t : FG) (body : FS) : FS := fun ρ st => (fi ρ st).so ρ fun p st1 => sLoop p.2 t body p.1 ρ st1
section
variable {X : Cx} {W : Wc} {tg e iter elt : Expr} {sts : List Stmt} {fe : FE} {fs : FA} {fi : FI} {g : FG} {body : FS} {ft : FT} {pos p p2 : Pos}
theorem js_forI (hp : PassesOwn (model X.prog X.w) X.A X.env X.xe) (hc : X.calm = true) (hi : JI X W tg iter fi) (hg : JG X W tg g) (hb : JB X W sts body) (hs : ∀ x, foldedSetIterable iter X.env x = pure x := by intro _; rfl) : JS X W (.For tg iter sts [] pos) (sForI fi g body) := by
  refine ps_imp (ps_for hp hc hi hg hb hs) fun E σ H h => ?_
  obtain ⟨m, st, ρ, rs, re, h⟩ := h
  refine ⟨m, st, ρ, rs, re, ?_⟩
  unfold sForI at h
  cases q : fi ρ st with
  | ok p st1 =>
    rw [q] at h
    exact fun m1 H1 r1 mn J hJ => loopS hJ r1 (re.mono mn) Mn.refl (MeetS.later h mn)
  | exc x st1 =>
    rw [q] at h
    exact fun m1 H1 cls od r1 mn rx => h m1 H1 σ cls od r1 mn (re.mono mn) rx
  | bad => rw [q] at h; exact h
/-! ### sources -/
def fSeq (fe : FE) : FI := fun ρ st => (fe ρ st).bind fun d st1 => match d with
  | .tup ds => .ok (ds, fun _ => true) st1
  | .loc n => match lstAt st1 n with
    | some ds => .ok (ds, fun s => decide (lstAt s n = some ds)) st1
    | none => .bad
  | .str z => .ok (signs z, fun _ => true) st1
  | _ => .bad
theorem serves_tup {K : PySem.W.Frag} {m : Nat → Addr} {n : Nat} {H : Hp} {ds : List D} {a : Addr} (rv : RV K m n H (.tup ds) (.ref a)) : Serves K m n H (Itt K a) ds (fun _ => true) := by
  intro m' st' H' rs mn _
  obtain ⟨a', ws, ea, q3, q4⟩ := mn _ _ rv
  cases ea
  refine ⟨fun i d hi => ?_, ⟨ws, q3, by rw [RVs.len q4]; exact Nat.le_refl _⟩⟩
  obtain ⟨x, g1, g2⟩ := RVs.get q4 hi
  refine ⟨⟨ws, x, q3, g1⟩, fun y H'' yl => ?_⟩
  obtain ⟨rfl, yl⟩ := yl
  have := yl ws q3
  rw [g1] at this
  cases this
  exact ⟨rs, Mn.refl, g2⟩
theorem serves_lst {K : PySem.W.Frag} {m : Nat → Addr} {n k : Nat} {H : Hp} {ds : List D} {a : Addr} (rv : RV K m n H (.loc k) (.ref a)) : Serves K m n H (Itl K a) ds (fun s => decide (lstAt s k = some ds)) := by
  intro m' st' H' rs mn hc
  obtain ⟨hn', ea⟩ := mn _ _ rv
  have ea' : a = m' k := V.ref.inj ea
  obtain ⟨ws, q3, q4, _⟩ := lstAt_ok rs (of_decide_eq_true hc)
  rw [← ea'] at q3
  refine ⟨fun i d hi => ?_, ⟨ws, q3, by rw [RVs.len q4]; exact Nat.le_refl _⟩⟩
  obtain ⟨x, g1, g2⟩ := RVs.get q4 hi
  refine ⟨⟨ws, x, q3, g1⟩, fun y H'' yl => ?_⟩
  obtain ⟨rfl, yl⟩ := yl
  have := yl ws q3
  rw [g1] at this
  cases this
  exact ⟨rs, Mn.refl, g2⟩
theorem serves_str {K : PySem.W.Frag} {m : Nat → Addr} {n : Nat} {H : Hp} {z : Str} : Serves K m n H (Its z) (signs z) (fun _ => true) := by
  intro m' st' H' rs mn _
  refine ⟨fun i d hi => ?_, ?_⟩
  · unfold signs at hi
    rw [List.getElem?_map] at hi
    obtain ⟨c, e1, e2⟩ := Option.map_eq_some_iff.mp hi
    rw [Array.getElem?_toList] at e1
    refine ⟨(Array.getElem?_eq_some_iff.mp e1).1, fun x H' y => ?_⟩
    obtain ⟨rfl, c', e3, rfl⟩ := y
    rw [e1] at e3
    cases e3
    subst e2
    exact ⟨rs, Mn.refl, rfl⟩
  · show z.cps.size ≤ (signs z).length
    unfold signs
    rw [List.length_map, Array.length_toList]
    exact Nat.le_refl _
theorem serves_rng {K : PySem.W.Frag} {m : Nat → Addr} {n : Nat} {H : Hp} {lo hi : Int} : Serves K m n H (Itr lo (hi - lo).toNat) (rangeD lo hi) (fun _ => true) := by
  intro m' st' H' rs mn _
  refine ⟨fun i d hi => ?_, ?_⟩
  · have hl := (List.getElem?_eq_some_iff.mp hi).1
    unfold rangeD at hi hl
    rw [List.length_map, List.length_range] at hl
    rw [List.getElem?_map, List.getElem?_range hl] at hi
    cases hi
    refine ⟨hl, fun x H' y => ?_⟩
    obtain ⟨rfl, rfl⟩ := y
    exact ⟨rs, Mn.refl, rfl⟩
  · show (hi - lo).toNat ≤ (rangeD lo hi).length
    unfold rangeD
    rw [List.length_map, List.length_range]
    exact Nat.le_refl _
theorem ji_seq (he : JE X W e fe) : JI X W tg e (fSeq fe) := by
  refine pi_imp (pi_seq he) fun σ H R h => ?_
  obtain ⟨m, st, ρ, rs, re, h⟩ := h
  refine ⟨m, st, ρ, rs, re, (Meet.bind h).imp fun d st1 m1 H1 r1 mn h1 v rv => ?_⟩
  cases d with
  | tup ds =>
    have rv0 := rv
    obtain ⟨a, vs, rfl, q1, q2⟩ := rv
    exact .inl ⟨a, rfl, .inr ⟨⟨vs, q1⟩, h1 m1 H1 r1 Mn.refl _ (serves_tup rv0)⟩⟩
  | loc n =>
    have rv0 := rv
    obtain ⟨hn, rfl⟩ := rv
    simp only at h1
    cases q : lstAt st1 n with
    | none => simp only [q] at h1; exact h1.elim
    | some ds =>
      simp only [q] at h1
      obtain ⟨vs, g1, g2, _⟩ := lstAt_ok r1 q
      exact .inl ⟨_, rfl, .inl ⟨⟨vs, g1⟩, h1 m1 H1 r1 Mn.refl _ (serves_lst rv0)⟩⟩
  | str z =>
    obtain rfl : v = .str z := rv
    exact .inr ⟨z, rfl, h1 m1 H1 r1 Mn.refl _ serves_str⟩
  | _ => exact h1.elim
def fRng1 (fs : FA) : FI := fun ρ st => (fs ρ st).bind fun ds st1 => match ds with
  | [.int j] => if Small62 j then .ok (rangeD 0 j, fun _ => true) st1 else .bad
  | _ => .bad
def fRng2 (fs : FA) : FI := fun ρ st => (fs ρ st).bind fun ds st1 => match ds with
  | [.int i, .int j] => if Small62 i ∧ Small62 j then .ok (rangeD i j, fun _ => true) st1 else .bad
  | _ => .bad
theorem ji_rng1 {a : Expr} (hgl : Gl X "range") (hm : X.mg "range" = none) (ha : JA X W [a] fs) (hst : starEach [a] X.env = [(false, eval a X.env)] := by rfl) : JI X W tg (.Call (.Name "range" p) [a] [] pos) (fRng1 fs) := by
  refine pi_imp (pi_range1 hgl hm ha hst) fun σ H R h => ?_
  obtain ⟨m, st, ρ, rs, re, h⟩ := h
  refine ⟨m, st, ρ, rs, re, (Meet.bind h).imp fun ds st1 m1 H1 r1 mn h1 vs rv => ?_⟩
  by_cases hx : ∃ j, ds = [.int j]
  · obtain ⟨j, rfl⟩ := hx
    obtain ⟨v, rfl, rfl⟩ := rvs1 rv
    simp only at h1
    by_cases hj : Small62 j
    · rw [if_pos hj] at h1
      have z := h1 m1 H1 r1 Mn.refl _ serves_rng
      rw [Int.sub_zero] at z
      exact ⟨j, rfl, hj.1, hj.2, z⟩
    · rw [if_neg hj] at h1; exact h1.elim
  · exfalso
    revert h1
    split
    · exact fun _ => hx ⟨_, rfl⟩
    · exact fun h => h
theorem ji_rng2 {a b : Expr} (hgl : Gl X "range") (hm : X.mg "range" = none) (ha : JA X W [a, b] fs) (hst : starEach [a, b] X.env = [(false, eval a X.env), (false, eval b X.env)] := by rfl) (hst2 : starEach [b] X.env = [(false, eval b X.env)] := by rfl) : JI X W tg (.Call (.Name "range" p) [a, b] [] pos) (fRng2 fs) := by
  refine pi_imp (pi_range2 hgl hm ha hst hst2) fun σ H R h => ?_
  obtain ⟨m, st, ρ, rs, re, h⟩ := h
  refine ⟨m, st, ρ, rs, re, (Meet.bind h).imp fun ds st1 m1 H1 r1 mn h1 vs rv => ?_⟩
  by_cases hx : ∃ i j, ds = [.int i, .int j]
  · obtain ⟨i, j, rfl⟩ := hx
    obtain ⟨v, w, rfl, rfl, rfl⟩ := rvs2 rv
    simp only at h1
    by_cases hj : Small62 i ∧ Small62 j
    · rw [if_pos hj] at h1
      exact ⟨i, j, rfl, ⟨hj.1.1, hj.1.2, hj.2.1, hj.2.2⟩, h1 m1 H1 r1 Mn.refl _ serves_rng⟩
    · rw [if_neg hj] at h1; exact h1.elim
  · exfalso
    revert h1
    split
    · exact fun _ => hx ⟨_, _, rfl⟩
    · exact fun h => h
end
/-! ### list comprehensions -/
def wipeE (ρ : En) : List Nat → En
  | [] => ρ
  | v :: vs => (wipeE ρ vs).set v none
theorem RE.wipe {gh : List (D × V)} {K : PySem.W.Frag} {m : Nat → Addr} {n : Nat} {H : Hp} {ρ : En} {σ : L2.St} (r : RE gh K m n H ρ σ) : ∀ vs : List Nat, RE gh K m n H (wipeE ρ vs) (wipe σ vs)
  | [] => r
  | v :: vs => (RE.wipe r vs).drop
theorem wipe_set (σ : L2.St) (i : Nat) (x : Option V) : ∀ vs : List Nat, wipe (σ.set i x) vs = if i ∈ vs then wipe σ vs else (wipe σ vs).set i x
  | [] => by simp [wipe]
  | v :: vs => by
    unfold wipe
    rw [wipe_set σ i x vs]
    by_cases hv : i = v
    · subst hv
      by_cases h : i ∈ vs
      · simp [h]
      · simp [h]
    · by_cases h : i ∈ vs
      · simp [h]
      · simp only [h, if_false, List.mem_cons, hv, false_or]
        exact List.set_comm _ _ hv
theorem wipe_sub (σ : L2.St) (ws : List Nat) : ∀ vs : List Nat, (∀ v ∈ vs, v ∈ ws) → wipe (wipe σ vs) ws = wipe σ ws
  | [], _ => rfl
  | v :: vs, h => by
    show wipe ((wipe σ vs).set v none) ws = _
    rw [wipe_set, if_pos (h v (List.mem_cons_self ..))]
    exact wipe_sub σ ws vs fun u hu => h u (List.mem_cons_of_mem _ hu)
theorem wipe_wipe (σ : L2.St) (vs : List Nat) : wipe (wipe σ vs) vs = wipe σ vs := wipe_sub σ vs vs fun _ h => h
/-- targets within a block: the def's other slots stay -/
def rGw (K : PySem.W.Frag) (W : Wc) (own : List Nat) (f : FG) : TG := fun v σ H Q => ∃ m st ρ d ρ', RS K m st H ∧ RE W.gh K m st.length H ρ σ ∧ RV K m st.length H d v ∧ f d st ρ = some ρ' ∧ ∀ σ', RE W.gh K m st.length H ρ' σ' → wipe σ' own = wipe σ own → Q σ' H
def rGws (K : PySem.W.Frag) (W : Wc) (own : List Nat) (fs : List FG) : TGs := fun vs σ H Q => ∃ m st ρ ds ρ', RS K m st H ∧ RE W.gh K m st.length H ρ σ ∧ RVs K m st.length H ds vs ∧ tgAll fs ds st ρ = some ρ' ∧ ∀ σ', RE W.gh K m st.length H ρ' σ' → wipe σ' own = wipe σ own → Q σ' H
abbrev JGw (X : Cx) (W : Wc) (own : List Nat) (e : Expr) (f : FG) : Prop := PG X e (rGw X.K W own f)
abbrev JGws (X : Cx) (W : Wc) (own : List Nat) (es : List Expr) (fs : List FG) : Prop := PGs X es (rGws X.K W own fs)
section
variable {X : Cx} {W : Wc} {own : List Nat} {e : Expr} {es : List Expr} {f : FG} {fs : List FG} {pos p : Pos}
theorem jgw_name {i : Nat} {x : Str} (hN : X.N.Nodup) (hi : X.N[i]? = some x) (ho : i ∈ own) (hx : Loc X.env.scope x := by first | exact Or.inl rfl | exact Or.inr rfl) (hf : X.fn x = true ∨ X.env.scope.names.lookup x = some .local := by first | exact .inl rfl | exact .inr rfl | assumption) : JGw X W own (.Name x pos) (tgN i) :=
  pg_imp (pg_name hN hi hx hf) fun v σ H Q ⟨m, st, ρ, d, ρ', rs, re, rv, e, h⟩ => by
    cases e
    exact h _ (re.set rv) (by rw [wipe_set, if_pos ho])
theorem jgws_nil : JGws X W own [] [] := pgs_imp pgs_nil fun v σ H Q ⟨m, st, ρ, ds, ρ', rs, re, rv, e, h⟩ => by
  cases ds with
  | nil =>
    cases rv
    cases e
    exact ⟨rfl, h _ re rfl⟩
  | cons _ _ => cases e
theorem jgws_cons (h1 : JGw X W own e f) (h2 : JGws X W own es fs) (hs : (assignEach (e :: es) X.env).map (·.2) = assign e X.env :: (assignEach es X.env).map (·.2) := by rfl) : JGws X W own (e :: es) (f :: fs) :=
  pgs_imp (pgs_cons h1 h2 hs) fun v σ H Q ⟨m, st, ρ, ds, ρ', rs, re, rv, e, h⟩ => by
    cases ds with
    | nil => cases e
    | cons d ds =>
      obtain ⟨x, r, rfl, r1, r2⟩ := rv
      obtain ⟨ρ1, e1, e2⟩ := Option.bind_eq_some_iff.mp (show (f d st ρ).bind (fun ρ1 => tgAll fs ds st ρ1) = some ρ' from e)
      exact ⟨x, r, rfl, m, st, ρ, d, ρ1, rs, re, r1, e1, fun σ1 re1 w1 => ⟨m, st, ρ1, ds, ρ', rs, re1, r2, e2, fun σ2 re2 w2 => h σ2 re2 (w2.trans w1)⟩⟩
theorem jgw_tup {k : Nat} (hc : X.calm = true) (h : JGws X W own es fs) (hn : (assignEach es X.env).length = fs.length := by rfl) (hst : (assignEach es X.env).findIdx? (·.1) = none := by rfl) : JGw X W own (.Tuple es k pos) (tgTup fs) :=
  pg_imp (pg_tup hc h hn hst) fun v σ H Q ⟨m, st, ρ, d, ρ', rs, re, rv, e, h⟩ => by
    cases d with
    | tup ds =>
      obtain ⟨a, vs, rfl, q1, q2⟩ := rv
      exact ⟨a, vs, rfl, q1, by rw [← RVs.len q2]; exact tgAll_len e, m, st, ρ, ds, ρ', rs, re, q2, e, h⟩
    | _ => cases e
end
def lcGo (chk : S → Bool) (g : FG) (ft : FT) (fe : FE) (ρ : En) (n : Nat) : List D → S → Out D
  | [], st => if chk st = true then .ok (.loc n) st else .bad
  | d :: ds, st => if chk st = true then (match g d st ρ with
    | some ρ1 => (match ft ρ1 st with
      | .ok true st2 => (match fe ρ1 st2 with
        | .ok y st3 => (match st3[n]? with
          | some (.lst acc) => if acc.length < sizeLine then lcGo chk g ft fe ρ n ds (st3.set n (.lst (acc ++ [y]))) else .bad
          | _ => .bad)
        | _ => .bad)
      | .ok false st2 => lcGo chk g ft fe ρ n ds st2
      | _ => .bad)
    | none => .bad) else .bad
def fLc (own : List Nat) (fi : FI) (g : FG) (ft : FT) (fe : FE) : FE := fun ρ st => (fi ρ st).bind fun p st1 => lcGo p.2 g ft fe (wipeE ρ own) st1.length p.1 (st1 ++ [.lst []])
def fYes : FT := fun _ st => .ok true st
abbrev noW (W : Wc) : Wc := ⟨noX, W.gh⟩
theorem pts_imp {X : Cx} {ifs : List Expr} {t t' : TT} (h : PTs X ifs t) (hi : ∀ σ H Q, t' σ H Q → t σ H Q) : PTs X ifs t' := ⟨fun pins s σ H Q I hw => h.run pins s σ H Q I (hi σ H Q hw)⟩
theorem jts_nil {X : Cx} {W : Wc} : PTs X [] (rT X.K X.mg W fYes) := pts_imp pts_nil fun σ H Q ⟨m, st, ρ, rs, re, h⟩ => h m H rs Mn.refl
theorem jts_one {X : Cx} {W : Wc} {c : Expr} {f : FT} (h : JT X W c f) : PTs X [c] (rT X.K X.mg W f) := pts_one h
theorem lc_den {K : PySem.W.Frag} {mg : Str → Option Value} {W : Wc} {own : List Nat} {fi : FI} {g : FG} {ft : FT} {fe : FE} {σ : L2.St} {H : Hp} {Q : VK} (h : rE K mg W (fLc own fi g ft fe) σ H Q) :
    tLc (rI K mg W fi) (rGw K (noW W) own g) (rT K mg (noW W) ft) (rE K mg (noW W) fe) own σ H Q := by
  obtain ⟨m, st, ρ, rs, re, h⟩ := h
  refine ⟨m, st, ρ, rs, re, (Meet.bind h).imp fun p st1 m1 H1 r1 mn h1 J hJ Da hD => ?_⟩
  obtain ⟨m2, e2, r2, mn2⟩ := r1.push hD (ds := []) (vs := []) rfl
  have h2 := Meet.later h1 mn2
  have hl2 : (st1 ++ [Ob.lst []]).length = st1.length + 1 := by simp
  refine ⟨fun i k H => k = p.1.length - i ∧ i ≤ p.1.length ∧ ∃ m st, RS K m st H ∧ Mn K m2 (st1 ++ [Ob.lst []]).length (upd H1 Da (.lst [])) m st.length H ∧
    Meet K mg m st.length H (lcGo p.2 g ft fe (wipeE ρ own) st1.length (p.1.drop i) st) (fun d st' m' H' => ∀ v, RV K m' st'.length H' d v → Q v H') (fun cls od H' => W.W cls od σ H'), ⟨_, rfl, Nat.zero_le _, m2, _, r2, Mn.refl, h2⟩, ?_⟩
  rintro i k H3 ⟨rfl, hi, m3, st3, r3, mn3, h3⟩
  have rl : RV K m2 (st1 ++ [Ob.lst []]).length (upd H1 Da (.lst [])) (.loc st1.length) (.ref Da) := ⟨by rw [hl2]; omega, by rw [e2]⟩
  have rl3 := mn3 _ _ rl
  have re3 := ((re.mono mn).mono mn2).mono mn3
  by_cases hlt : i < p.1.length
  · have e : p.1.drop i = p.1[i] :: p.1.drop (i + 1) := List.drop_eq_getElem_cons hlt
    rw [e] at h3
    unfold lcGo at h3
    by_cases hc : p.2 st3 = true
    · rw [if_pos hc] at h3
      have hd : p.1[i]? = some p.1[i] := List.getElem?_eq_getElem hlt
      obtain ⟨j1, j2⟩ := (hJ m3 st3 H3 r3 (mn2.trans mn3) hc).1 i p.1[i] hd
      refine .inr ⟨j1, fun H' => ∃ m st, RS K m st H' ∧ Mn K m2 (st1 ++ [Ob.lst []]).length (upd H1 Da (.lst [])) m st.length H' ∧
        Meet K mg m st.length H' (lcGo p.2 g ft fe (wipeE ρ own) st1.length (p.1.drop (i + 1)) st) (fun d st' m' H' => ∀ v, RV K m' st'.length H' d v → Q v H') (fun cls od H' => W.W cls od σ H'), fun H' z => ⟨p.1.length - (i + 1), by omega, rfl, hlt, z⟩, fun x H' y => ?_⟩
      obtain ⟨rs', mn', rv'⟩ := j2 x H' y
      have h4 := Meet.later h3 mn'
      have mn4 := mn3.trans mn'
      cases q : g p.1[i] st3 (wipeE ρ own) with
      | none => rw [q] at h4; exact h4.elim
      | some ρ1 =>
        rw [q] at h4
        refine ⟨m3, st3, wipeE ρ own, p.1[i], ρ1, rs', (re3.mono mn').wipe own, rv', q, fun σ1 re1 w1 => ⟨?_, ?_⟩⟩
        · rw [w1]
          exact wipe_wipe σ own
        refine ⟨m3, st3, ρ1, rs', re1, ?_⟩
        simp only at h4
        cases hb : ft ρ1 st3 with
        | bad => simp only [hb] at h4; exact h4
        | exc _ _ => simp only [hb] at h4; exact h4.elim
        | ok b st5 =>
          rw [hb] at h4
          intro m5 H5 r5 mn5
          cases b with
          | false =>
            rw [if_neg Bool.false_ne_true]
            exact ⟨m5, st5, r5, mn4.trans mn5, Meet.later h4 mn5⟩
          | true =>
            rw [if_pos rfl]
            simp only at h4
            refine ⟨m5, st5, ρ1, r5, re1.mono mn5, ?_⟩
            cases b2 : fe ρ1 st5 with
            | bad => simp only [b2] at h4; exact h4
            | exc _ _ => simp only [b2] at h4; exact h4.elim
            | ok yd st6 =>
              simp only [b2] at h4
              intro m6 H6 r6 mn6 v rv
              have mn56 := mn5.trans mn6
              have rl6 := (mn4.trans mn56) _ _ rl
              cases b3 : st6[st1.length]? with
              | none => simp only [b3] at h4; exact h4.elim
              | some ob =>
                simp only [b3] at h4
                cases ob with
                | lst acc =>
                  simp only at h4
                  by_cases hz : acc.length < sizeLine
                  · rw [if_pos hz] at h4
                    obtain ⟨xs, g1, g2⟩ := r6.at_ _ _ b3
                    have eD : m6 st1.length = Da := (V.ref.inj rl6.2).symm
                    obtain ⟨r7, mn7⟩ := r6.write b3 (RVs.app g2 (RVs.one rv))
                    rw [eD] at g1 r7 mn7
                    have hl7 : (st6.set st1.length (.lst (acc ++ [yd]))).length = st6.length := List.length_set
                    refine ⟨xs, g1, by rw [← RVs.len g2]; exact hz, m6, _, r7, ?_, ?_⟩
                    · have z := (mn4.trans mn56).trans mn7
                      exact z
                    · exact Meet.later (Meet.later h4 mn56) mn7
                  · rw [if_neg hz] at h4; exact h4.elim
                | _ => exact h4.elim
    · rw [if_neg hc] at h3; exact h3.elim
  · have e : i = p.1.length := by omega
    subst e
    rw [List.drop_length] at h3
    unfold lcGo at h3
    by_cases hc : p.2 st3 = true
    · rw [if_pos hc] at h3
      exact .inl ⟨(hJ m3 st3 H3 r3 (mn2.trans mn3) hc).2, h3 m3 H3 r3 Mn.refl _ rl3⟩
    · rw [if_neg hc] at h3; exact h3.elim
end MP

set_option Elab.async false
set_option linter.all false
set_option maxRecDepth 100000
set_option maxHeartbeats 4000000
/-! MPL2: the rules of comprehensions; enumerate, zip; all, any; tuple * int; range loops within a suite. -/
namespace MP
open PySem L2
theorem takes_no {X : Cx} : L2N.Takes X noX := fun u s' ⟨_, _, _, _, _, _, _, _, _, _, _, _, _, _, _, _, w⟩ => w.elim
section
variable {X : Cx} {W : Wc} {tg iter elt : Expr} {ifs : List Expr} {scope : Scope} {pos spos p : Pos} {fi : FI} {g : FG} {ft : FT} {fe : FE} {fs : FA}
theorem je_lc {os : List Nat} (own : List (Str × Nat)) (ho : own.map (·.2) = os) (hc : X.calm = true) (hN : X.N.Nodup) (hi : JI X W tg iter fi) (ok : BlkOk X.N X.env.scope scope own)
    (hg : ∀ (s : Shared) (H : Hp) (C : Addr) (cl : List (Str × Addr)) (fp : List Addr), JGw (X.blk s H scope (compEnvC scope cl C X.env) fp) (noW W) os tg g)
    (ht : ∀ (s : Shared) (H : Hp) (C : Addr) (cl : List (Str × Addr)) (fp : List Addr), PTs (X.blk s H scope (compEnvC scope cl C X.env) fp) ifs (rT X.K X.mg (noW W) ft))
    (he : ∀ (s : Shared) (H : Hp) (C : Addr) (cl : List (Str × Addr)) (fp : List Addr), JE (X.blk s H scope (compEnvC scope cl C X.env) fp) (noW W) elt fe) (hs : ∀ x, foldedSetIterable iter X.env x = pure x := by intro _; rfl) :
    JE X W (.ListComp elt [⟨tg, iter, ifs, 0⟩] scope pos) (fLc os fi g ft fe) := by
  subst ho
  exact pe_imp (pe_lc hc hN hi ok hg ht he hs) fun σ H Q h => lc_den h
theorem js_setLc {i : Nat} {y : Str} {py : Pos} {os : List Nat} (own : List (Str × Nat)) (ho : own.map (·.2) = os) (hc : X.calm = true) (hN : X.N.Nodup) (hy : X.N[i]? = some y) (hyl : X.env.scope.names.lookup y = some .local)
    (hsw : swapsWith (.ListComp elt [⟨tg, iter, ifs, 0⟩] scope pos) (some (.Name y py)) spos.line X.env = pure true) (hi : JI X W tg iter fi) (ok : BlkOk X.N X.env.scope scope own)
    (hg : ∀ (s : Shared) (H : Hp) (C : Addr) (cl : List (Str × Addr)) (fp : List Addr), JGw (X.blk s H scope (compEnvC scope cl C X.env) fp) (noW W) os tg g)
    (ht : ∀ (s : Shared) (H : Hp) (C : Addr) (cl : List (Str × Addr)) (fp : List Addr), PTs (X.blk s H scope (compEnvC scope cl C X.env) fp) ifs (rT X.K X.mg (noW W) ft))
    (he : ∀ (s : Shared) (H : Hp) (C : Addr) (cl : List (Str × Addr)) (fp : List Addr), JE (X.blk s H scope (compEnvC scope cl C X.env) fp) (noW W) elt fe) (hs : ∀ x, foldedSetIterable iter X.env x = pure x := by intro _; rfl) :
    JS X W (.Assign [.Name y py] (.ListComp elt [⟨tg, iter, ifs, 0⟩] scope pos) spos) (sSet i (fLc os fi g ft fe)) := by
  subst ho
  refine ps_imp (ps_setLc (te := rE X.K X.mg (noW W) fe) (g := rGw X.K (noW W) (own.map (·.2)) g) hc hN hy hyl hsw hi ok hg ht he hs) fun E σ H h => ?_
  obtain ⟨m, st, ρ, rs, re, h⟩ := h
  refine lc_den (se_bind rs re h fun d st1 m1 H1 v r1 re1 mn rv h1 => ?_)
  exact h1 m1 H1 _ r1 Mn.refl (re1.set rv)
/-! ### enumerate -/
def enumD (ds : List D) : List D := ds.mapIdx fun i d => .tup [.int (i : Nat), d]
def fEnum (fs : FA) : FI := fun ρ st => (fs ρ st).bind fun xs st1 => match xs with
  | [.loc n] => (match lstAt st1 n with
    | some ds => .ok (enumD ds, fun s => decide (lstAt s n = some ds)) st1
    | none => .bad)
  | _ => .bad
theorem serves_enum {K : PySem.W.Frag} {m : Nat → Addr} {n k : Nat} {H : Hp} {ds : List D} {a : Addr} (rv : RV K m n H (.loc k) (.ref a)) : Serves K m n H (Ite K a) (enumD ds) (fun s => decide (lstAt s k = some ds)) := by
  intro m' st' H' rs mn hc
  obtain ⟨hn', ea⟩ := mn _ _ rv
  have ea' : a = m' k := V.ref.inj ea
  obtain ⟨ws, q3, q4, _⟩ := lstAt_ok rs (of_decide_eq_true hc)
  rw [← ea'] at q3
  refine ⟨fun i d hi => ?_, ⟨ws, q3, by unfold enumD; rw [List.length_mapIdx, RVs.len q4]; exact Nat.le_refl _⟩⟩
  unfold enumD at hi
  rw [List.getElem?_mapIdx] at hi
  obtain ⟨d0, hi2, rfl⟩ := Option.map_eq_some_iff.mp hi
  obtain ⟨x, g1, g2⟩ := RVs.get q4 hi2
  refine ⟨⟨ws, x, q3, g1⟩, fun y H'' yl => ?_⟩
  obtain ⟨T, x', rfl, hT, rfl, yl⟩ := yl
  have := yl ws q3
  rw [g1] at this
  cases this
  obtain ⟨r2, mn2⟩ := rs.laid (o := .tup [.int (i : Nat), x]) hT
  exact ⟨r2, mn2, T, [.int (i : Nat), x], rfl, SqT.of upd_same, _, _, rfl, rfl, _, _, rfl, mn2 _ _ g2, rfl⟩
theorem ji_enum {e : Expr} {tpos : Pos} {elts : List Expr} {kk : Nat} (hgl : Gl X "enumerate") (hm : X.mg "enumerate" = none) (ha : JA X W [e] fs) (hst : starEach [e] X.env = [(false, eval e X.env)] := by rfl) :
    JI X W (.Tuple elts kk tpos) (.Call (.Name "enumerate" p) [e] [] pos) (fEnum fs) := by
  refine pi_imp (pi_enum hgl hm ha hst) fun σ H R h => ?_
  obtain ⟨m, st, ρ, rs, re, h⟩ := h
  refine ⟨m, st, ρ, rs, re, (Meet.bind h).imp fun ds st1 m1 H1 r1 mn h1 vs rv => ?_⟩
  by_cases hx : ∃ n, ds = [.loc n]
  · obtain ⟨n, rfl⟩ := hx
    obtain ⟨v, rfl, rv1⟩ := rvs1 rv
    have rv0 := rv1
    obtain ⟨hn, rfl⟩ := rv1
    simp only at h1
    cases q : lstAt st1 n with
    | none => simp only [q] at h1; exact h1.elim
    | some ds =>
      simp only [q] at h1
      obtain ⟨vs, g1, g2, _⟩ := lstAt_ok r1 q
      exact ⟨_, vs, rfl, g1, h1 m1 H1 r1 Mn.refl _ (serves_enum rv0)⟩
  · exfalso
    revert h1
    split
    · exact fun _ => hx ⟨_, rfl⟩
    · exact fun h => h
/-! ### zip of two lists, of two tuples -/
def zipD (xs ys : List D) : List D := (xs.zip ys).map fun p => .tup [p.1, p.2]
def fZip (fs : FA) : FI := fun ρ st => (fs ρ st).bind fun xs st1 => match xs with
  | [.loc n, .loc k] => (match lstAt st1 n, lstAt st1 k with
    | some ds, some es => .ok (zipD ds es, fun s => decide (lstAt s n = some ds) && decide (lstAt s k = some es)) st1
    | _, _ => .bad)
  | [.tup ds, .tup es] => .ok (zipD ds es, fun _ => true) st1
  | _ => .bad
theorem zipD_at {xs ys : List D} {i : Nat} {d : D} (h : (zipD xs ys)[i]? = some d) : ∃ a b, xs[i]? = some a ∧ ys[i]? = some b ∧ d = .tup [a, b] := by
  unfold zipD at h
  rw [List.getElem?_map] at h
  obtain ⟨⟨a, b⟩, e1, rfl⟩ := Option.map_eq_some_iff.mp h
  obtain ⟨h1, h2⟩ := List.getElem?_zip_eq_some.mp e1
  exact ⟨a, b, h1, h2, rfl⟩
theorem zipD_len (xs ys : List D) : (zipD xs ys).length = min xs.length ys.length := by
  unfold zipD
  rw [List.length_map, List.length_zip]
theorem serves_zipL {K : PySem.W.Frag} {m : Nat → Addr} {n k k2 : Nat} {H : Hp} {ds es : List D} {a b : Addr} (rv : RV K m n H (.loc k) (.ref a)) (rv2 : RV K m n H (.loc k2) (.ref b)) :
    Serves K m n H (Itz K a b) (zipD ds es) (fun s => decide (lstAt s k = some ds) && decide (lstAt s k2 = some es)) := by
  intro m' st' H' rs mn hc
  rw [Bool.and_eq_true] at hc
  obtain ⟨_, ea⟩ := mn _ _ rv
  obtain ⟨_, eb⟩ := mn _ _ rv2
  have ea' : a = m' k := V.ref.inj ea
  have eb' : b = m' k2 := V.ref.inj eb
  obtain ⟨ws, q3, q4, _⟩ := lstAt_ok rs (of_decide_eq_true hc.1)
  obtain ⟨us, p3, p4, _⟩ := lstAt_ok rs (of_decide_eq_true hc.2)
  rw [← ea'] at q3
  rw [← eb'] at p3
  refine ⟨fun i d hi => ?_, ⟨ws, us, q3, p3, by rw [zipD_len, ← RVs.len q4, ← RVs.len p4]; omega⟩⟩
  obtain ⟨d1, d2, h1, h2, rfl⟩ := zipD_at hi
  obtain ⟨x, g1, g2⟩ := RVs.get q4 h1
  obtain ⟨z, g3, g4⟩ := RVs.get p4 h2
  refine ⟨⟨ws, us, x, z, q3, p3, g1, g3⟩, fun y H'' yl => ?_⟩
  obtain ⟨T, x', z', rfl, hT, rfl, y1, y2⟩ := yl
  have t1 := y1 ws q3
  have t2 := y2 us p3
  rw [g1] at t1
  rw [g3] at t2
  cases t1
  cases t2
  obtain ⟨r2, mn2⟩ := rs.laid (o := .tup [x, z]) hT
  exact ⟨r2, mn2, T, [x, z], rfl, SqT.of upd_same, _, _, rfl, mn2 _ _ g2, _, _, rfl, mn2 _ _ g4, rfl⟩
theorem serves_zipT {K : PySem.W.Frag} {m : Nat → Addr} {n : Nat} {H : Hp} {ds es : List D} {a b : Addr} (rv : RV K m n H (.tup ds) (.ref a)) (rv2 : RV K m n H (.tup es) (.ref b)) :
    Serves K m n H (RZ.ItzT K a b) (zipD ds es) (fun _ => true) := by
  intro m' st' H' rs mn hc
  obtain ⟨_, ws, ea, q3, q4⟩ := mn _ _ rv
  cases ea
  obtain ⟨_, us, eb, p3, p4⟩ := mn _ _ rv2
  cases eb
  refine ⟨fun i d hi => ?_, ⟨ws, us, q3, p3, by rw [zipD_len, ← RVs.len q4, ← RVs.len p4]; omega⟩⟩
  obtain ⟨d1, d2, h1, h2, rfl⟩ := zipD_at hi
  obtain ⟨x, g1, g2⟩ := RVs.get q4 h1
  obtain ⟨z, g3, g4⟩ := RVs.get p4 h2
  refine ⟨⟨ws, us, x, z, q3, p3, g1, g3⟩, fun y H'' yl => ?_⟩
  obtain ⟨T, x', z', rfl, hT, rfl, y1, y2⟩ := yl
  have t1 := y1 ws q3
  have t2 := y2 us p3
  rw [g1] at t1
  rw [g3] at t2
  cases t1
  cases t2
  obtain ⟨r2, mn2⟩ := rs.laid (o := .tup [x, z]) hT
  exact ⟨r2, mn2, T, [x, z], rfl, SqT.of upd_same, _, _, rfl, mn2 _ _ g2, _, _, rfl, mn2 _ _ g4, rfl⟩
theorem ji_zip {e e2 : Expr} {tpos : Pos} {elts : List Expr} {kk : Nat} (hgl : Gl X "zip") (hm : X.mg "zip" = none) (ha : JA X W [e, e2] fs)
    (hs : starEach [e, e2] X.env = (false, eval e X.env) :: starEach [e2] X.env := by rfl) (hpl : (backTo pos (starEach [e2] X.env)).any (·.1) = false := by rfl) :
    JI X W (.Tuple elts kk tpos) (.Call (.Name "zip" p) [e, e2] [] pos) (fZip fs) := by
  refine pi_imp (RZ.pi_zipA hgl hm ha hs hpl) fun σ H R h => ?_
  obtain ⟨m, st, ρ, rs, re, h⟩ := h
  refine ⟨m, st, ρ, rs, re, (Meet.bind h).imp fun ds st1 m1 H1 r1 mn h1 vs rv => ?_⟩
  by_cases hx : ∃ n k, ds = [.loc n, .loc k]
  · obtain ⟨n, k, rfl⟩ := hx
    obtain ⟨v, w, rfl, rv1, rv2⟩ := rvs2 rv
    have rv0 := rv1
    have rv20 := rv2
    obtain ⟨hn, rfl⟩ := rv1
    obtain ⟨hk, rfl⟩ := rv2
    simp only at h1
    cases q : lstAt st1 n with
    | none => simp only [q] at h1; exact h1.elim
    | some ds =>
      cases q2 : lstAt st1 k with
      | none => simp only [q, q2] at h1; exact h1.elim
      | some es =>
        simp only [q, q2] at h1
        obtain ⟨vs, g1, g2, _⟩ := lstAt_ok r1 q
        obtain ⟨ws, g3, g4, _⟩ := lstAt_ok r1 q2
        exact ⟨_, _, vs, ws, rfl, .inl ⟨g1, g3, h1 m1 H1 r1 Mn.refl _ (serves_zipL rv0 rv20)⟩⟩
  · by_cases hy : ∃ xs ys, ds = [.tup xs, .tup ys]
    · obtain ⟨xs, ys, rfl⟩ := hy
      obtain ⟨v, w, rfl, rv1, rv2⟩ := rvs2 rv
      have rv0 := rv1
      have rv20 := rv2
      obtain ⟨a, vs, rfl, q1, q2⟩ := rv1
      obtain ⟨b, ws, rfl, q3, q4⟩ := rv2
      exact ⟨_, _, vs, ws, rfl, .inr ⟨q1, q3, h1 m1 H1 r1 Mn.refl _ (serves_zipT rv0 rv20)⟩⟩
    · exfalso
      revert h1
      split
      · exact fun _ => hx ⟨_, _, rfl⟩
      · exact fun _ => hy ⟨_, _, rfl⟩
      · exact fun h => h
/-! ### all, any -/
def bolsD : List D → Option (List Bool)
  | [] => some []
  | .bl b :: r => (bolsD r).map (b :: ·)
  | _ => none
def gAll (ds : List D) (st : S) : Option (D × S) := match ds with
  | [.loc n] => match lstAt st n with
    | some xs => (bolsD xs).map fun bs => (.bl (bs.all id), st)
    | none => none
  | _ => none
def gAny (ds : List D) (st : S) : Option (D × S) := match ds with
  | [.loc n] => match lstAt st n with
    | some xs => (bolsD xs).map fun bs => (.bl (bs.any id), st)
    | none => none
  | _ => none
theorem bols_rel {K : PySem.W.Frag} {m : Nat → Addr} {n : Nat} {H : Hp} : ∀ {ds : List D} {vs : List V} {bs : List Bool}, RVs K m n H ds vs → bolsD ds = some bs → vs = bs.map V.bl
  | [], vs, bs, h, e => by cases e; exact h
  | d :: ds, vs, bs, h, e => by
    obtain ⟨v, r, rfl, h1, h2⟩ := h
    cases d with
    | bl b =>
      obtain ⟨bs', e1, rfl⟩ := Option.map_eq_some_iff.mp (show (bolsD ds).map (b :: ·) = some bs from e)
      rw [List.map_cons, bols_rel h2 e1]
      cases h1
      rfl
    | _ => cases e
theorem cad_all (hc : X.calm = true) : CallR X (.builtin "all") (rDL X.K gAll) := by
  intro pins s σ H xs us Q I r h
  obtain ⟨m, st, ds, d, st', rs, r1, e, fin⟩ := h
  unfold gAll at e
  split at e
  · obtain ⟨v, rfl, _, rfl⟩ := rvs1 r1
    split at e
    · rename_i q
      obtain ⟨vs, g1, g2, _⟩ := lstAt_ok rs q
      obtain ⟨bs, e1, e2⟩ := Option.map_eq_some_iff.mp e
      cases e2
      rw [bols_rel g2 e1] at g1
      exact cr_all hc pins s σ H _ us Q I r ⟨_, bs, rfl, g1, fin.here rs rfl⟩
    · cases e
  · cases e
theorem cad_any (hc : X.calm = true) : CallR X (.builtin "any") (rDL X.K gAny) := by
  intro pins s σ H xs us Q I r h
  obtain ⟨m, st, ds, d, st', rs, r1, e, fin⟩ := h
  unfold gAny at e
  split at e
  · obtain ⟨v, rfl, _, rfl⟩ := rvs1 r1
    split at e
    · rename_i q
      obtain ⟨vs, g1, g2, _⟩ := lstAt_ok rs q
      obtain ⟨bs, e1, e2⟩ := Option.map_eq_some_iff.mp e
      cases e2
      rw [bols_rel g2 e1] at g1
      exact cr_any hc pins s σ H _ us Q I r ⟨_, bs, rfl, g1, fin.here rs rfl⟩
    · cases e
  · cases e
end
end MP

set_option Elab.async false
set_option linter.all false
set_option maxRecDepth 100000
set_option maxHeartbeats 4000000
/-! MPL3: tuple * int (any count), range loops within a suite. -/
namespace L2
open PySem PySem.Spec PyProof.Rows
theorem tuple_mul_same (l : Addr) (items : Array Value) (n : Nat) (dd : Option Addr) (sl : Array (Option Value)) (x : Int) (u : Tok) (c0 : (decide (x < -(2 ^ 63)) || decide (x ≥ 2 ^ 63)) = false) (c1 : (items.isEmpty || x == 1) = true) :
    Meets (Builtin.«tuple.__mul__» ⟨[.ref l, .int x u], []⟩) (fun _ R s => s.heap.get? l = some { cls := .type "tuple", dict := dd, data := .seq items n, slots := sl } ∧
      R (.ok (.ret (Value.ref l))) s) :=
  .of_wp fun prog w A R s h => by
    obtain ⟨hp, g, d, tk, os⟩ := s
    obtain ⟨hl, h⟩ := h
    have f1 := AutoSeq1.idx_int
    wp_walk using wpAny_loadPart' hl
    repeat (first
      | (refine wpAny_ite_false (decide_eq_false (by rw [c0]; exact Bool.false_ne_true)) ?_; wp_walk using wpAny_loadPart' hl)
      | (refine wpAny_ite_true (decide_eq_true c1) ?_; wp_walk using wpAny_loadPart' hl))
    exact ⟨_, rfl, h⟩
theorem tuple_mul_none (l : Addr) (items : Array Value) (n : Nat) (dd : Option Addr) (sl : Array (Option Value)) (x : Int) (u : Tok) (c0 : (decide (x < -(2 ^ 63)) || decide (x ≥ 2 ^ 63)) = false) (c1 : (items.isEmpty || x == 1) = false) (c2 : (decide (x ≤ 0) || items.isEmpty) = true) :
    Meets (Builtin.«tuple.__mul__» ⟨[.ref l, .int x u], []⟩) (fun _ R s => s.heap.get? l = some { cls := .type "tuple", dict := dd, data := .seq items n, slots := sl } ∧
      R (.ok (.ret (Value.ref s.heap.objs.size))) { s with heap := s.heap.push { cls := Value.type "tuple", data := Data.seq #[] }, toks := s.toks }) :=
  .of_wp fun prog w A R s h => by
    obtain ⟨hp, g, d, tk, os⟩ := s
    obtain ⟨hl, h⟩ := h
    have f1 := AutoSeq1.idx_int
    wp_walk using wpAny_loadPart' hl
    repeat (first
      | (refine wpAny_ite_false (decide_eq_false (by rw [c0]; exact Bool.false_ne_true)) ?_; wp_walk using wpAny_loadPart' hl)
      | (refine wpAny_ite_false (decide_eq_false (by rw [c1]; exact Bool.false_ne_true)) ?_; wp_walk using wpAny_loadPart' hl)
      | (refine wpAny_ite_true (decide_eq_true c2) ?_; wp_walk using wpAny_loadPart' hl))
    exact ⟨_, rfl, h⟩
def rRepA (K : PySem.W.Frag) : R2 := fun x y H Q => ∃ l k xs, x = .ref l ∧ y = .int k ∧ SqT K H l xs ∧ -1000 ≤ k ∧ k ≤ 1000 ∧ xs.length ≤ 1000 ∧ ((xs = [] ∨ k = 1) → Q (.ref l) H) ∧ (¬ (xs = [] ∨ k = 1) → ∀ p, H p = none → Q (.ref p) (upd H p (.tup (List.replicate k.toNat xs).flatten)))
theorem op_repA {X : Cx} : OpR X (binaryOp .Mult) (rRepA X.K) := by
  intro pins s σ H x y v u Q I rx ry h
  obtain ⟨l, k, xs, ex, ey, hT, h1, h2, hz, q1, q2⟩ := h
  by_cases c : 2 ≤ k ∧ xs ≠ []
  · exact op_repT pins s σ H x y v u Q I rx ry ⟨l, k, xs, ex, ey, hT, c.2, c.1, h2, hz, q2 (fun e => by
      rcases e with e | e
      · exact c.2 e
      · omega)⟩
  subst ex ey
  cases rx
  obtain ⟨t, rfl⟩ := ry
  obtain ⟨its, r, ⟨⟨cls, dd, data, sl⟩, ho, hc, n, hd⟩, hs⟩ := I.tuple hT
  simp only at hc hd
  subst hc hd
  have hle : its.length = xs.length := r.length.symm
  have c0 : (decide (k < -(2 ^ 63)) || decide (k ≥ 2 ^ 63)) = false := by
    rw [decide_eq_false (by omega), decide_eq_false (by omega)] <;> rfl
  have he : its.toArray.isEmpty = true ↔ xs = [] := by
    constructor
    · intro e
      cases its with
      | nil => exact List.eq_nil_of_length_eq_zero hle.symm
      | cons a b => cases e
    · intro e
      rw [e] at hle
      rw [List.eq_nil_of_length_eq_zero hle]
      rfl
  by_cases c1 : xs = [] ∨ k = 1
  · have c1' : (its.toArray.isEmpty || k == 1) = true := by
      rcases c1 with e | e
      · rw [he.mpr e]; rfl
      · rw [e]; simp
    refine wpAny_binaryOp_repeat_ref (T := "tuple") (U := "int") (by decide) ⟨_, ho, rfl⟩ (fun s' => typeIs_int s' k t) noFill_tuple_mul F.fills_int_mul F.slot_int_rmul repeat_tuple F.slot_int_index.lookup
      (call_meets F.slot_int_rmul (typeIs_int s k t) F.entry_int_rmul (F.args_int_rmul_2 _ _) (int_rmul_tuple k t l its.toArray n dd sl)
        ⟨ho, rfl, ⟨_, ho, rfl⟩, call_meets F.slot_tuple_mul ⟨_, ho, rfl⟩ F.entry_tuple_mul (F.args_tuple_mul_2 _ _) (tuple_mul_same l its.toArray n dd sl k t c0 c1') ⟨ho, ?_⟩⟩)
    exact ⟨.ref l, H, I, rfl, q1 c1⟩
  · have ce : its.toArray.isEmpty = false := by
      cases e : its.toArray.isEmpty
      · rfl
      · exact absurd (.inl (he.mp e)) c1
    have ck : k ≤ 0 := by
      rcases Classical.em (k ≤ 0) with e | e
      · exact e
      · have n1 : ¬ k = 1 := fun e => c1 (.inr e)
        exact absurd ⟨by omega, fun e => c1 (.inl e)⟩ c
    have c1' : (its.toArray.isEmpty || k == 1) = false := by
      rw [ce, Bool.false_or]
      exact beq_eq_false_iff_ne.mpr (by omega)
    have c2' : (decide (k ≤ 0) || its.toArray.isEmpty) = true := by
      rw [decide_eq_true ck]; rfl
    have ef : (List.replicate k.toNat xs).flatten = [] := by
      have : k.toNat = 0 := by omega
      rw [this]
      rfl
    have q2 := q2 c1
    rw [ef] at q2
    refine wpAny_binaryOp_repeat_ref (T := "tuple") (U := "int") (by decide) ⟨_, ho, rfl⟩ (fun s' => typeIs_int s' k t) noFill_tuple_mul F.fills_int_mul F.slot_int_rmul repeat_tuple F.slot_int_index.lookup
      (call_meets F.slot_int_rmul (typeIs_int s k t) F.entry_int_rmul (F.args_int_rmul_2 _ _) (int_rmul_tuple k t l its.toArray n dd sl)
        ⟨ho, rfl, ⟨_, ho, rfl⟩, call_meets F.slot_tuple_mul ⟨_, ho, rfl⟩ F.entry_tuple_mul (F.args_tuple_mul_2 _ _) (tuple_mul_none l its.toArray n dd sl k t c0 c1' c2') ⟨ho, ?_⟩⟩)
    refine ⟨.ref s.heap.objs.size, _, I.laid (t' := s.toks) (o := .tup []) (fun b ob q => Heap.get?_push_of_some _ q) (Nat.le_refl _) ?_, rfl, q2 _ (I.hok.fresh (Nat.le_refl _))⟩
    exact ⟨by rw [sizeLine_eq]; decide, [], .nil, IsTup.new _ _⟩
end L2
namespace MP
open PySem L2
theorem kw_bindsN {K : PySem.W.Frag} {x qual : Str} {params : Arguments} {body : List Stmt} {scope : Scope} {kws : List (Str × V)} {f : Addr} {fd : FuncData} {ks ps : List Str} {np : Nat} {sel : List Nat} (F : FunD K x qual params body scope [] kws f fd)
    (h : ∀ (kV doc pm : Value) (an : Option Addr) (cdv ct : Value) (us ws : List Value), us.length + ws.length = np → ws.length = ks.length →
      bindArgs (PySem.W.fnOf x qual params body scope .none kV doc pm an cdv ct) ⟨us, ks.zip ws⟩ = pure (ps.zip (pick sel (us ++ ws)))) :
    ∃ dus, Vals [] dus ∧ ∀ (s : Shared) (us ws : List Value), K.In s.heap → us.length + ws.length = np → ws.length = ks.length → BindsTo s fd ⟨us, ks.zip ws⟩ (ps.zip (pick sel (us ++ ws ++ dus))) := by
  obtain ⟨oc, od, dV, kV, doc, pm, an, cdv, ct, osl, rfl, lk, hcd, hD, hK⟩ := F.ex
  rcases hD with ⟨_, rfl⟩ | ⟨e, _⟩
  · refine ⟨[], .nil, fun s us ws X h1 h2 => ?_⟩
    rw [List.append_nil]
    exact .of_eq (h kV doc pm an cdv ct us ws h1 h2)
  · exact absurd rfl e
theorem bt_all : bootBuiltins "all" = some (.builtin "all") := by decide +kernel
theorem bt_any : bootBuiltins "any" = some (.builtin "any") := by decide +kernel
/-- i * j, list * k, tuple * k -/
noncomputable def gMulT (x y : D) (st : S) : Option (D × S) := match x, y with
  | .tup xs, .int k => if -1000 ≤ k ∧ k ≤ 1000 ∧ xs.length ≤ 1000 then some (.tup (List.replicate k.toNat xs).flatten, st) else none
  | x, y => gMul x y st
theorem rvs_rep {K : PySem.W.Frag} {m : Nat → Addr} {n : Nat} {H : Hp} {ds : List D} {vs : List V} (h : RVs K m n H ds vs) : ∀ k : Nat, RVs K m n H (List.replicate k ds).flatten (List.replicate k vs).flatten
  | 0 => rfl
  | k + 1 => by
    rw [List.replicate_succ, List.replicate_succ, List.flatten_cons, List.flatten_cons]
    exact RVs.app h (rvs_rep h k)
theorem opd_mulT {X : Cx} : OpR X (binaryOp .Mult) (rD X.K gMulT) := by
  intro pins s σ H x y v u Q I rx ry h
  obtain ⟨m, st, dx, dy, d, st', rs, r1, r2, e, fin⟩ := h
  unfold gMulT at e
  split at e
  · rename_i xs k
    split at e
    · rename_i hl
      cases e
      have r10 := r1
      obtain ⟨a, vs, rfl, q1, q2⟩ := r1
      cases r2
      have l1 := RVs.len q2
      refine op_repA pins s σ H _ _ v u Q I rx ry ⟨a, k, vs, rfl, rfl, q1, hl.1, hl.2.1, by rw [← l1]; exact hl.2.2, fun c => ?_, fun c p hp => fin.tup rs (rvs_rep q2 _) hp⟩
      refine fin.here rs ?_
      have e : (List.replicate k.toNat xs).flatten = xs := by
        rcases c with c | c
        · rw [c] at l1
          have : xs = [] := List.eq_nil_of_length_eq_zero l1
          rw [this]
          simp
        · rw [c]
          simp
      rw [e]
      exact r10
    · cases e
  · exact opd_mul pins s σ H x y v u Q I rx ry ⟨m, st, dx, dy, d, st', rs, r1, r2, e, fin⟩
/-! ### a range loop within a suite -/
section
variable {X : Cx} {W : Wc} {tg : Expr} {sts : List Stmt} {fs : FA} {g : FG} {body : FS} {p : Pos}
theorem js_forR1H {a : Expr} {pos pos2 : Pos} (hp : PassesOwn (model X.prog X.w) X.A X.env X.xe) (hc : L2H.HotC X) (hgl : Gl X "range") (hm : X.mg "range" = none) (ha : JA X W [a] fs) (hg : JG X W tg g) (hb : JB X W sts body)
    (hst : starEach [a] X.env = [(false, eval a X.env)] := by rfl) (hs : ∀ x, foldedSetIterable (.Call (.Name "range" p) [a] [] pos) X.env x = pure x := by intro _; rfl) :
    JS X W (.For tg (.Call (.Name "range" p) [a] [] pos) sts [] pos2) (sForR1 fs g body) := by
  refine ps_imp (L2H.ps_forH hp hc (L2H.pi_range1H hgl hm ha hst) hg hb hs) fun E σ H h => ?_
  obtain ⟨m, st, ρ, rs, re, h⟩ := h
  refine sa_bind rs re h fun ds st1 m1 H1 vs r1 re1 mn rv h1 => ?_
  by_cases hx : ∃ j, ds = [.int j]
  · obtain ⟨j, rfl⟩ := hx
    obtain ⟨v, rfl, rfl⟩ := rvs1 rv
    simp only at h1
    by_cases hj : Small62 j
    · rw [if_pos hj] at h1
      refine ⟨j, rfl, hj.1, hj.2, ?_⟩
      have z := rng_ok (lo := 0) (hi := j) r1 re1 h1
      rw [Int.sub_zero] at z
      exact z
    · rw [if_neg hj] at h1; exact h1.elim
  · exfalso
    revert h1
    split
    · exact fun _ => hx ⟨_, rfl⟩
    · exact fun h => h
end
end MP

set_option Elab.async false
set_option linter.all false
set_option maxRecDepth 100000
set_option maxHeartbeats 4000000
/-! law_k03_forms_at_points: the defs as denotations (printed by gen.py) -/
namespace K03
open PySem MP
noncomputable section

abbrev c_ONE : D := .tup [.int 1, .int 1]
abbrev c_ZERO : D := .tup [.int 0, .int 1]
def tx_FitError : List (Str × Bool) := [(("BadNumber" : Str), true), (("BadPlace" : Str), true), (("BadForm" : Str), true)]
def tx_BadPlace : List (Str × Bool) := [(("BadNumber" : Str), false), (("BadPlace" : Str), true), (("BadForm" : Str), false)]
def ti_BadNumber : List (Str × Bool) := [(("BadNumber" : Str), true), (("BadPlace" : Str), false), (("BadForm" : Str), false)]
def ti_BadText : List (Str × Bool) := [(("BadNumber" : Str), false), (("BadPlace" : Str), false), (("BadForm" : Str), false)]
def ti_BadSpan : List (Str × Bool) := [(("BadNumber" : Str), false), (("BadPlace" : Str), false), (("BadForm" : Str), false)]
def ti_BadPlace : List (Str × Bool) := [(("BadNumber" : Str), false), (("BadPlace" : Str), true), (("BadForm" : Str), false)]
def ti_BadForm : List (Str × Bool) := [(("BadNumber" : Str), false), (("BadPlace" : Str), false), (("BadForm" : Str), true)]
def ti_ValueError : List (Str × Bool) := [(("BadNumber" : Str), true), (("BadPlace" : Str), true), (("BadForm" : Str), true)]
def ti_FitError : List (Str × Bool) := [(("BadNumber" : Str), true), (("BadPlace" : Str), true), (("BadForm" : Str), true)]
def cs_form : List Str := [("BadForm" : Str)]
def cs_place : List Str := [("BadPlace" : Str)]
/-- _law_bag: 0 script, 1 bag, 2 cell -/
def m__law_bag : FS :=
  sSeq (sSet 1 (fLst (fCons (fC (.int 0)) (fCons (fBin gMod (fArgs gInt (fCons (fArgs gSum (fCons (fSl gSl (fVar 0) (fNo) (fPart (fC (.int 63)))) (fNil))) (fNil))) (fC (.int 1000003))) (fNil)))))
  (sSeq (sFor (fSl gSl (fVar 0) (fNo) (fPart (fC (.int 63)))) (tgN 2) (sIf (fIsB (fBin gGe (fArgs gAbs (fCons (fArgs gInt (fCons (fVar 2) (fNil))) (fNil))) (fBin gPow (fC (.int 10)) (fC (.int 18))))) (sExpr (fLM gAppend (fVar 1) (fCons (fArgs gAbs (fCons (fArgs gInt (fCons (fVar 2) (fNil))) (fNil))) (fNil)))) (sExpr (fLM gAppend (fVar 1) (fCons (fBin gSub (fUn gNeg (fC (.int 1))) (fArgs gAbs (fCons (fArgs gInt (fCons (fVar 2) (fNil))) (fNil)))) (fNil))))))
  (sRet (fVar 1)))
def g__law_bag : List D → S → Out D := arN 1 (den 3 m__law_bag)
/-- _law_mixed: 0 cell, 1 turn, 2 first, 3 second -/
def m__law_mixed : FS :=
  sSeq (sSet 2 (fBin gMod (fArgs gInt (fCons (fBin gAdd (fBin gAdd (fBin gMul (fVar 0) (fC (.int 48271))) (fBin gMul (fVar 1) (fC (.int 69621)))) (fC (.int 12345))) (fNil))) (fC (.int 2147483647))))
  (sSeq (sSet 3 (fBin gMod (fArgs gInt (fCons (fBin gAdd (fBin gAdd (fBin gMul (fVar 2) (fVar 2)) (fBin gMul (fVar 2) (fC (.int 16807)))) (fBin gMul (fVar 1) (fC (.int 7919)))) (fNil))) (fC (.int 2147483629))))
  (sRet (fBin gDiv (fBin gMod (fArgs gInt (fCons (fBin gAdd (fBin gMul (fVar 3) (fC (.int 39373))) (fBin gDiv (fVar 2) (fC (.int 7)))) (fNil))) (fC (.int 2147483587))) (fC (.int 16)))))
def g__law_mixed : List D → S → Out D := arN 2 (den 4 m__law_mixed)
/-- _law_take: 0 bag, 1 many, 2 cell -/
def m__law_take : FS :=
  sSeq (sStore (fVar 0) (fC (.int 0)) (fBin gAdd (fBin gIx (fVar 0) (fC (.int 0))) (fC (.int 1))))
  (sSeq (sIf (fIsB (fBin gLt (fArgs gLen (fCons (fVar 0) (fNil))) (fC (.int 3)))) (sRet (fBin gMod (fArgs gInt (fCons (fCall g__law_mixed (fCons (fBin gIx (fVar 0) (fC (.int 1))) (fCons (fBin gIx (fVar 0) (fC (.int 0))) (fNil)))) (fNil))) (fVar 1))) (sSkip))
  (sSeq (sSet 2 (fBin gIx (fVar 0) (fC (.int 2))))
  (sSeq (sIf (fIsB (fBin gLt (fVar 2) (fC (.int 0)))) (sSeq (sExpr (fLM gPop (fVar 0) (fCons (fC (.int 2)) (fNil))))
  (sRet (fBin gMod (fArgs gInt (fCons (fCall g__law_mixed (fCons (fBin gSub (fUn gNeg (fC (.int 1))) (fVar 2)) (fCons (fBin gIx (fVar 0) (fC (.int 0))) (fNil)))) (fNil))) (fVar 1)))) (sSkip))
  (sSeq (sStore (fVar 0) (fC (.int 2)) (fBin gDiv (fVar 2) (fVar 1)))
  (sSeq (sIf (fIsB (fBin gEq (fBin gIx (fVar 0) (fC (.int 2))) (fC (.int 0)))) (sExpr (fLM gPop (fVar 0) (fCons (fC (.int 2)) (fNil)))) (sSkip))
  (sRet (fBin gMod (fArgs gInt (fCons (fVar 2) (fNil))) (fVar 1))))))))
def g__law_take : List D → S → Out D := arN 2 (den 3 m__law_take)
/-- _law_large: 0 bag, 1 grown, 2 k -/
def m__law_large : FS :=
  sSeq (sSet 1 (fC (.int 0)))
  (sSeq (sForR1 (fCons (fC (.int 5)) (fNil)) (tgN 2) (sSet 1 (fBin gAdd (fBin gMul (fVar 1) (fC (.int 100000000))) (fCall g__law_take (fCons (fVar 0) (fCons (fC (.int 100000000)) (fNil)))))))
  (sRet (fVar 1)))
def g__law_large : List D → S → Out D := arN 1 (den 3 m__law_large)
/-- _law_divisor: 0 a, 1 b, 2 k -/
def m__law_divisor : FS :=
  sSeq (sForR1 (fCons (fC (.int 3000)) (fNil)) (tgN 2) (sSeq (sIf (fIsB (fBin gEq (fVar 1) (fC (.int 0)))) (sBreak) (sSkip))
  (sPar 0 1 (fCons (fVar 1) (fCons (fBin gMod (fArgs gInt (fCons (fVar 0) (fNil))) (fVar 1)) (fNil))))))
  (sRet (fVar 0))
def g__law_divisor : List D → S → Out D := arN 2 (den 3 m__law_divisor)
/-- _law_lowest: 0 above, 1 below, 2 divisor -/
def m__law_lowest : FS :=
  sSeq (sSet 2 (fCall g__law_divisor (fCons (fArgs gAbs (fCons (fVar 0) (fNil))) (fCons (fVar 1) (fNil)))))
  (sRet (fTup (fCons (fBin gDiv (fVar 0) (fVar 2)) (fCons (fBin gDiv (fVar 1) (fVar 2)) (fNil)))))
def g__law_lowest : List D → S → Out D := arN 2 (den 3 m__law_lowest)
/-- _law_beside: 0 bag, 1 before, 2 way, 3 side, 4 mate, 5 factor -/
def m__law_beside : FS :=
  sSeq (sSet 4 (fTup (fCons (fC (.int 1)) (fCons (fC (.int 1)) (fNil)))))
  (sSeq (sIf (fIsB (fBin gGt (fArgs gLen (fCons (fVar 1) (fNil))) (fC (.int 0)))) (sSet 4 (fBin gIx (fVar 1) (fCall g__law_take (fCons (fVar 0) (fCons (fArgs gLen (fCons (fVar 1) (fNil))) (fNil)))))) (sSkip))
  (sSeq (sIf (fIsB (fBin gEq (fVar 2) (fC (.int 8)))) (sRet (fVar 4)) (sSkip))
  (sSeq (sIf (fIsB (fBin gEq (fVar 2) (fC (.int 9)))) (sRet (fTup (fCons (fUn gNeg (fBin gIx (fVar 4) (fC (.int 0)))) (fCons (fBin gIx (fVar 4) (fC (.int 1))) (fNil))))) (sSkip))
  (sSeq (sIf (fAnd (fIsB (fBin gEq (fVar 2) (fC (.int 10)))) (fIsB (fBin gGt (fBin gIx (fVar 4) (fC (.int 0))) (fC (.int 0))))) (sRet (fTup (fCons (fBin gIx (fVar 4) (fC (.int 1))) (fCons (fBin gIx (fVar 4) (fC (.int 0))) (fNil))))) (sSkip))
  (sSeq (sIf (fAnd (fIsB (fBin gEq (fVar 2) (fC (.int 10)))) (fIsB (fBin gLt (fBin gIx (fVar 4) (fC (.int 0))) (fC (.int 0))))) (sRet (fTup (fCons (fUn gNeg (fBin gIx (fVar 4) (fC (.int 1)))) (fCons (fUn gNeg (fBin gIx (fVar 4) (fC (.int 0)))) (fNil))))) (sSkip))
  (sSeq (sIf (fAnd (fIsB (fBin gLt (fArgs gAbs (fCons (fBin gIx (fVar 4) (fC (.int 0))) (fNil))) (fBin gPow (fC (.int 10)) (fC (.int 19))))) (fIsB (fBin gLt (fBin gIx (fVar 4) (fC (.int 1))) (fBin gPow (fC (.int 10)) (fC (.int 19)))))) (sSeq (sSet 5 (fBin gAdd (fC (.int 1)) (fCall g__law_take (fCons (fVar 0) (fCons (fC (.int 100000000)) (fNil))))))
  (sRet (fCall g__law_lowest (fCons (fBin gAdd (fBin gMul (fBin gIx (fVar 4) (fC (.int 0))) (fVar 5)) (fVar 3)) (fCons (fBin gMul (fBin gIx (fVar 4) (fC (.int 1))) (fVar 5)) (fNil)))))) (sSkip))
  (sSeq (sIf (fIsB (fBin gGt (fBin gIx (fVar 4) (fC (.int 0))) (fC (.int 0)))) (sRet (fCall g__law_lowest (fCons (fBin gSub (fBin gIx (fVar 4) (fC (.int 0))) (fC (.int 1))) (fCons (fBin gIx (fVar 4) (fC (.int 1))) (fNil))))) (sSkip))
  (sRet (fCall g__law_lowest (fCons (fBin gAdd (fBin gIx (fVar 4) (fC (.int 0))) (fC (.int 1))) (fCons (fBin gIx (fVar 4) (fC (.int 1))) (fNil))))))))))))
def g__law_beside : List D → S → Out D := arN 4 (den 6 m__law_beside)
/-- _law_number: 0 bag, 1 before, 2 way, 3 side, 4 above -/
def m__law_number : FS :=
  sSeq (sSet 2 (fCall g__law_take (fCons (fVar 0) (fCons (fC (.int 12)) (fNil)))))
  (sSeq (sSet 3 (fBin gSub (fC (.int 1)) (fBin gMul (fC (.int 2)) (fCall g__law_take (fCons (fVar 0) (fCons (fC (.int 2)) (fNil)))))))
  (sSeq (sIf (fIsB (fBin gEq (fVar 2) (fC (.int 0)))) (sRet (fTup (fCons (fC (.int 0)) (fCons (fC (.int 1)) (fNil))))) (sSkip))
  (sSeq (sIf (fIsB (fBin gEq (fVar 2) (fC (.int 1)))) (sRet (fTup (fCons (fBin gMul (fVar 3) (fCall g__law_take (fCons (fVar 0) (fCons (fC (.int 13)) (fNil))))) (fCons (fC (.int 1)) (fNil))))) (sSkip))
  (sSeq (sIf (fIsB (fBin gLt (fVar 2) (fC (.int 5)))) (sRet (fCall g__law_lowest (fCons (fBin gMul (fVar 3) (fCall g__law_take (fCons (fVar 0) (fCons (fC (.int 31)) (fNil))))) (fCons (fBin gAdd (fC (.int 1)) (fCall g__law_take (fCons (fVar 0) (fCons (fC (.int 12)) (fNil))))) (fNil))))) (sSkip))
  (sSeq (sIf (fIsB (fBin gEq (fVar 2) (fC (.int 5)))) (sRet (fTup (fCons (fBin gMul (fVar 3) (fCall g__law_large (fCons (fVar 0) (fNil)))) (fCons (fC (.int 1)) (fNil))))) (sSkip))
  (sSeq (sIf (fIsB (fBin gEq (fVar 2) (fC (.int 6)))) (sSeq (sSet 4 (fBin gMul (fVar 3) (fCall g__law_large (fCons (fVar 0) (fNil)))))
  (sRet (fCall g__law_lowest (fCons (fVar 4) (fCons (fBin gAdd (fC (.int 1)) (fBin gMod (fArgs gInt (fCons (fCall g__law_large (fCons (fVar 0) (fNil))) (fNil))) (fBin gSub (fBin gPow (fC (.int 10)) (fC (.int 40))) (fC (.int 1))))) (fNil)))))) (sSkip))
  (sSeq (sIf (fIsB (fBin gEq (fVar 2) (fC (.int 7)))) (sSeq (sSet 4 (fBin gMul (fVar 3) (fBin gSub (fBin gSub (fBin gPow (fC (.int 10)) (fC (.int 40))) (fC (.int 1))) (fCall g__law_take (fCons (fVar 0) (fCons (fC (.int 30)) (fNil)))))))
  (sRet (fCall g__law_lowest (fCons (fVar 4) (fCons (fBin gSub (fBin gSub (fBin gPow (fC (.int 10)) (fC (.int 40))) (fC (.int 1))) (fCall g__law_take (fCons (fVar 0) (fCons (fC (.int 30)) (fNil))))) (fNil)))))) (sSkip))
  (sRet (fCall g__law_beside (fCons (fVar 0) (fCons (fVar 1) (fCons (fVar 2) (fCons (fVar 3) (fNil))))))))))))))
def g__law_number : List D → S → Out D := arN 2 (den 5 m__law_number)
/-- _law_numbers: 0 bag, 1 many, 2 row, 3 k -/
def m__law_numbers : FS :=
  sSeq (sSet 2 (fLst (fNil)))
  (sSeq (sForR1 (fCons (fVar 1) (fNil)) (tgN 3) (sExpr (fLM gAppend (fVar 2) (fCons (fCall g__law_number (fCons (fVar 0) (fCons (fVar 2) (fNil)))) (fNil)))))
  (sRet (fVar 2)))
def g__law_numbers : List D → S → Out D := arN 2 (den 4 m__law_numbers)
/-- _law_pick: 0 bag, 1 pool -/
def m__law_pick : FS :=
  sRet (fBin gIx (fVar 1) (fCall g__law_take (fCons (fVar 0) (fCons (fArgs gLen (fCons (fVar 1) (fNil))) (fNil)))))
def g__law_pick : List D → S → Out D := arN 2 (den 2 m__law_pick)
/-- _law_form: 0 bag, 1 pool, 2 wide, 3 way, 4 row, 5 k -/
def m__law_form : FS :=
  sSeq (sSet 3 (fCall g__law_take (fCons (fVar 0) (fCons (fC (.int 3)) (fNil)))))
  (sSeq (sSet 4 (fLst (fCons (fCall g__law_pick (fCons (fVar 0) (fCons (fVar 1) (fNil)))) (fNil))))
  (sSeq (sForR1 (fCons (fVar 2) (fNil)) (tgN 5) (sIf (fOr (fIsB (fBin gEq (fVar 3) (fC (.int 0)))) (fAnd (fIsB (fBin gEq (fVar 3) (fC (.int 1)))) (fIsB (fBin gEq (fCall g__law_take (fCons (fVar 0) (fCons (fC (.int 2)) (fNil)))) (fC (.int 0)))))) (sExpr (fLM gAppend (fVar 4) (fCons (fTup (fCons (fC (.int 0)) (fCons (fC (.int 1)) (fNil)))) (fNil)))) (sExpr (fLM gAppend (fVar 4) (fCons (fCall g__law_pick (fCons (fVar 0) (fCons (fVar 1) (fNil)))) (fNil))))))
  (sRet (fArgs gTuple (fCons (fVar 4) (fNil))))))
def g__law_form : List D → S → Out D := arN 3 (den 6 m__law_form)
/-- ratio: 0 top, 1 bottom, 2 divisor -/
def m_ratio : FS :=
  sSeq (sIf (fIsB (fBin gEq (fVar 1) (fC (.int 0)))) (sRaise ("BadNumber" : Str) [("value" : Str)] (fCons (fVar 1) (fNil))) (sSkip))
  (sSeq (sIf (fIsB (fBin gLt (fVar 1) (fC (.int 0)))) (sPar 0 1 (fCons (fUn gNeg (fVar 0)) (fCons (fUn gNeg (fVar 1)) (fNil)))) (sSkip))
  (sSeq (sSet 2 (fArgs gGcd (fCons (fVar 0) (fCons (fVar 1) (fNil)))))
  (sRet (fTup (fCons (fBin gDiv (fVar 0) (fVar 2)) (fCons (fBin gDiv (fVar 1) (fVar 2)) (fNil)))))))
def g_ratio : List D → S → Out D := withD 2 [.int 1] (arN 2 (den 3 m_ratio))
/-- plus: 0 a, 1 b -/
def m_plus : FS :=
  sRet (fCall g_ratio (fCons (fBin gAdd (fBin gMul (fBin gIx (fVar 0) (fC (.int 0))) (fBin gIx (fVar 1) (fC (.int 1)))) (fBin gMul (fBin gIx (fVar 1) (fC (.int 0))) (fBin gIx (fVar 0) (fC (.int 1))))) (fCons (fBin gMul (fBin gIx (fVar 0) (fC (.int 1))) (fBin gIx (fVar 1) (fC (.int 1)))) (fNil))))
def g_plus : List D → S → Out D := arN 2 (den 2 m_plus)
/-- form_plus: 0 a, 1 b, 2 one, 3 other -/
def m_form_plus : FS :=
  sRet (fArgs gTuple (fCons (fLc [2, 3] (fZip (fCons (fVar 0) (fCons (fVar 1) (fNil)))) (tgTup [tgN 2, tgN 3]) (fYes) (fCall g_plus (fCons (fVar 2) (fCons (fVar 3) (fNil))))) (fNil)))
def g_form_plus : List D → S → Out D := arN 2 (den 4 m_form_plus)
/-- minus: 0 a, 1 b -/
def m_minus : FS :=
  sRet (fCall g_ratio (fCons (fBin gSub (fBin gMul (fBin gIx (fVar 0) (fC (.int 0))) (fBin gIx (fVar 1) (fC (.int 1)))) (fBin gMul (fBin gIx (fVar 1) (fC (.int 0))) (fBin gIx (fVar 0) (fC (.int 1))))) (fCons (fBin gMul (fBin gIx (fVar 0) (fC (.int 1))) (fBin gIx (fVar 1) (fC (.int 1)))) (fNil))))
def g_minus : List D → S → Out D := arN 2 (den 2 m_minus)
/-- form_minus: 0 a, 1 b, 2 one, 3 other -/
def m_form_minus : FS :=
  sRet (fArgs gTuple (fCons (fLc [2, 3] (fZip (fCons (fVar 0) (fCons (fVar 1) (fNil)))) (tgTup [tgN 2, tgN 3]) (fYes) (fCall g_minus (fCons (fVar 2) (fCons (fVar 3) (fNil))))) (fNil)))
def g_form_minus : List D → S → Out D := arN 2 (den 4 m_form_minus)
/-- times: 0 a, 1 b -/
def m_times : FS :=
  sRet (fCall g_ratio (fCons (fBin gMul (fBin gIx (fVar 0) (fC (.int 0))) (fBin gIx (fVar 1) (fC (.int 0)))) (fCons (fBin gMul (fBin gIx (fVar 0) (fC (.int 1))) (fBin gIx (fVar 1) (fC (.int 1)))) (fNil))))
def g_times : List D → S → Out D := arN 2 (den 2 m_times)
/-- form_times: 0 form, 1 number, 2 coefficient -/
def m_form_times : FS :=
  sRet (fArgs gTuple (fCons (fLc [2] (fSeq (fVar 0)) (tgN 2) (fYes) (fCall g_times (fCons (fVar 2) (fCons (fVar 1) (fNil))))) (fNil)))
def g_form_times : List D → S → Out D := arN 2 (den 3 m_form_times)
/-- value_at: 0 form, 1 point, 2 value, 3 coefficient, 4 number -/
def m_value_at : FS :=
  sSeq (sIf (fIsB (fBin gNe (fArgs gLen (fCons (fVar 1) (fNil))) (fBin gSub (fArgs gLen (fCons (fVar 0) (fNil))) (fC (.int 1))))) (sRaise ("BadForm" : Str) [("form" : Str)] (fCons (fVar 0) (fNil))) (sSkip))
  (sSeq (sSet 2 (fBin gIx (fVar 0) (fC (.int 0))))
  (sSeq (sForI (fZip (fCons (fSl gSl (fVar 0) (fPart (fC (.int 1))) (fNo)) (fCons (fVar 1) (fNil)))) (tgTup [tgN 3, tgN 4]) (sSet 2 (fCall g_plus (fCons (fVar 2) (fCons (fCall g_times (fCons (fVar 3) (fCons (fVar 4) (fNil)))) (fNil))))))
  (sRet (fVar 2))))
def g_value_at : List D → S → Out D := arN 2 (den 5 m_value_at)
/-- _law_integer: 0 thing -/
def m__law_integer : FS :=
  sRet (fAndV (fUn (gIsi "int") (fVar 0)) (fNotV (fUn (gIsi "bool") (fVar 0))))
def g__law_integer : List D → S → Out D := arN 1 (den 1 m__law_integer)
/-- _law_is: 0 answer, 1 due -/
def m__law_is : FS :=
  sSeq (sIf (fOr (fNot (fTru (fUn (gIsi "tuple") (fVar 0)))) (fIsB (fBin gNe (fArgs gLen (fCons (fVar 0) (fNil))) (fC (.int 2))))) (sRet (fC (.bl false))) (sSkip))
  (sSeq (sIf (fOr (fNot (fTru (fCall g__law_integer (fCons (fBin gIx (fVar 0) (fC (.int 0))) (fNil))))) (fNot (fTru (fCall g__law_integer (fCons (fBin gIx (fVar 0) (fC (.int 1))) (fNil)))))) (sRet (fC (.bl false))) (sSkip))
  (sRet (fAndV (fBin gEq (fBin gIx (fVar 0) (fC (.int 0))) (fBin gIx (fVar 1) (fC (.int 0)))) (fBin gEq (fBin gIx (fVar 0) (fC (.int 1))) (fBin gIx (fVar 1) (fC (.int 1)))))))
def g__law_is : List D → S → Out D := arN 2 (den 2 m__law_is)
/-- _law_sum: 0 few, 1 above, 2 below, 3 a -/
def m__law_sum : FS :=
  sSeq (sSet 1 (fC (.int 0)))
  (sSeq (sSet 2 (fC (.int 1)))
  (sSeq (sFor (fVar 0) (tgN 3) (sSeq (sSet 1 (fBin gAdd (fBin gMul (fVar 1) (fBin gIx (fVar 3) (fC (.int 1)))) (fBin gMul (fBin gIx (fVar 3) (fC (.int 0))) (fVar 2))))
  (sSet 2 (fBin gMul (fVar 2) (fBin gIx (fVar 3) (fC (.int 1)))))))
  (sRet (fCall g__law_lowest (fCons (fVar 1) (fCons (fVar 2) (fNil)))))))
def g__law_sum : List D → S → Out D := arN 1 (den 4 m__law_sum)
/-- _law_forms_sum: 0 forms, 1 wide, 2 row, 3 k, 4 shape -/
def m__law_forms_sum : FS :=
  sSeq (sSet 2 (fLst (fNil)))
  (sSeq (sForR1 (fCons (fBin gAdd (fVar 1) (fC (.int 1))) (fNil)) (tgN 3) (sExpr (fLM gAppend (fVar 2) (fCons (fCall g__law_sum (fCons (fLc [4] (fSeq (fVar 0)) (tgN 4) (fYes) (fBin gIx (fVar 4) (fVar 3))) (fNil))) (fNil)))))
  (sRet (fArgs gTuple (fCons (fVar 2) (fNil)))))
def g__law_forms_sum : List D → S → Out D := arN 2 (den 5 m__law_forms_sum)
/-- _law_product: 0 a, 1 b -/
def m__law_product : FS :=
  sRet (fCall g__law_lowest (fCons (fBin gMul (fBin gIx (fVar 0) (fC (.int 0))) (fBin gIx (fVar 1) (fC (.int 0)))) (fCons (fBin gMul (fBin gIx (fVar 0) (fC (.int 1))) (fBin gIx (fVar 1) (fC (.int 1)))) (fNil))))
def g__law_product : List D → S → Out D := arN 2 (den 2 m__law_product)
/-- _law_scaled: 0 shape, 1 factor, 2 a -/
def m__law_scaled : FS :=
  sRet (fArgs gTuple (fCons (fLc [2] (fSeq (fVar 0)) (tgN 2) (fYes) (fCall g__law_product (fCons (fVar 2) (fCons (fVar 1) (fNil))))) (fNil)))
def g__law_scaled : List D → S → Out D := arN 2 (den 3 m__law_scaled)
/-- _law_worth: 0 shape, 1 point, 2 few, 3 k -/
def m__law_worth : FS :=
  sSeq (sSet 2 (fLst (fCons (fBin gIx (fVar 0) (fC (.int 0))) (fNil))))
  (sSeq (sForR1 (fCons (fArgs gLen (fCons (fVar 1) (fNil))) (fNil)) (tgN 3) (sExpr (fLM gAppend (fVar 2) (fCons (fCall g__law_product (fCons (fBin gIx (fVar 0) (fBin gAdd (fVar 3) (fC (.int 1)))) (fCons (fBin gIx (fVar 1) (fVar 3)) (fNil)))) (fNil)))))
  (sRet (fCall g__law_sum (fCons (fVar 2) (fNil)))))
def g__law_worth : List D → S → Out D := arN 2 (den 4 m__law_worth)
/-- _law_form_is: 0 answer, 1 due, 2 k -/
def m__law_form_is : FS :=
  sSeq (sIf (fOr (fNot (fTru (fUn (gIsi "tuple") (fVar 0)))) (fIsB (fBin gNe (fArgs gLen (fCons (fVar 0) (fNil))) (fArgs gLen (fCons (fVar 1) (fNil)))))) (sRet (fC (.bl false))) (sSkip))
  (sSeq (sForR1 (fCons (fArgs gLen (fCons (fVar 1) (fNil))) (fNil)) (tgN 2) (sIf (fNot (fTru (fCall g__law_is (fCons (fBin gIx (fVar 0) (fVar 2)) (fCons (fBin gIx (fVar 1) (fVar 2)) (fNil)))))) (sRet (fC (.bl false))) (sSkip)))
  (sRet (fC (.bl true))))
def g__law_form_is : List D → S → Out D := arN 2 (den 3 m__law_form_is)
/-- _law_keeps: 0 shape, 1 a -/
def m__law_keeps : FS :=
  sSeq (sFor (fVar 0) (tgN 1) (sIf (fOr (fIsB (fBin gGe (fArgs gAbs (fCons (fBin gIx (fVar 1) (fC (.int 0))) (fNil))) (fBin gPow (fC (.int 10)) (fC (.int 40))))) (fIsB (fBin gGe (fBin gIx (fVar 1) (fC (.int 1))) (fBin gPow (fC (.int 10)) (fC (.int 40)))))) (sRet (fC (.bl false))) (sSkip)))
  (sRet (fC (.bl true)))
def g__law_keeps : List D → S → Out D := arN 1 (den 2 m__law_keeps)
/-- _law_agrees: 0 answer, 1 due, 2 point -/
def m__law_agrees : FS :=
  sSeq (sIf (fNot (fTru (fCall g__law_form_is (fCons (fVar 0) (fCons (fVar 1) (fNil)))))) (sRet (fC (.bl false))) (sSkip))
  (sRet (fOrV (fNotV (fCall g__law_keeps (fCons (fVar 1) (fNil)))) (fCall g__law_is (fCons (fCall g_value_at (fCons (fVar 0) (fCons (fVar 2) (fNil)))) (fCons (fCall g__law_worth (fCons (fVar 1) (fCons (fVar 2) (fNil)))) (fNil))))))
def g__law_agrees : List D → S → Out D := arN 3 (den 3 m__law_agrees)
/-- _law_two_right: 0 one, 1 two, 2 point, 3 factor, 4 wide, 5 less, 6 by -/
def m__law_two_right : FS :=
  sSeq (sSet 4 (fArgs gLen (fCons (fVar 2) (fNil))))
  (sSeq (sSet 5 (fCall g__law_scaled (fCons (fVar 1) (fCons (fTup (fCons (fUn gNeg (fC (.int 1))) (fCons (fC (.int 1)) (fNil)))) (fNil)))))
  (sSeq (sIf (fNot (fTru (fCall g__law_is (fCons (fCall g_value_at (fCons (fVar 0) (fCons (fVar 2) (fNil)))) (fCons (fCall g__law_worth (fCons (fVar 0) (fCons (fVar 2) (fNil)))) (fNil)))))) (sRet (fC (.bl false))) (sSkip))
  (sSeq (sIf (fNot (fTru (fCall g__law_agrees (fCons (fCall g_form_plus (fCons (fVar 0) (fCons (fVar 1) (fNil)))) (fCons (fCall g__law_forms_sum (fCons (fLst (fCons (fVar 0) (fCons (fVar 1) (fNil)))) (fCons (fVar 4) (fNil)))) (fCons (fVar 2) (fNil))))))) (sRet (fC (.bl false))) (sSkip))
  (sSeq (sIf (fNot (fTru (fCall g__law_agrees (fCons (fCall g_form_minus (fCons (fVar 0) (fCons (fVar 1) (fNil)))) (fCons (fCall g__law_forms_sum (fCons (fLst (fCons (fVar 0) (fCons (fVar 5) (fNil)))) (fCons (fVar 4) (fNil)))) (fCons (fVar 2) (fNil))))))) (sRet (fC (.bl false))) (sSkip))
  (sSeq (sFor (fLst (fCons (fVar 3) (fCons (fTup (fCons (fUn gNeg (fC (.int 1))) (fCons (fC (.int 1)) (fNil)))) (fCons (fTup (fCons (fC (.int 0)) (fCons (fC (.int 1)) (fNil)))) (fNil))))) (tgN 6) (sIf (fNot (fTru (fCall g__law_agrees (fCons (fCall g_form_times (fCons (fVar 0) (fCons (fVar 6) (fNil)))) (fCons (fCall g__law_scaled (fCons (fVar 0) (fCons (fVar 6) (fNil)))) (fCons (fVar 2) (fNil))))))) (sRet (fC (.bl false))) (sSkip)))
  (sRet (fC (.bl true))))))))
def g__law_two_right : List D → S → Out D := arN 4 (den 7 m__law_two_right)
/-- _is_integer: 0 value -/
def m__is_integer : FS :=
  sRet (fAndV (fUn (gIsi "int") (fVar 0)) (fNotV (fUn (gIsi "bool") (fVar 0))))
def g__is_integer : List D → S → Out D := arN 1 (den 1 m__is_integer)
/-- is_number: 0 value, 1 top, 2 bottom -/
def m_is_number : FS :=
  sSeq (sIf (fOr (fNot (fTru (fUn (gIsi "tuple") (fVar 0)))) (fIsB (fBin gNe (fArgs gLen (fCons (fVar 0) (fNil))) (fC (.int 2))))) (sRet (fC (.bl false))) (sSkip))
  (sSeq (sAsg (tgTup [tgN 1, tgN 2]) (fVar 0))
  (sSeq (sIf (fOr (fNot (fTru (fCall g__is_integer (fCons (fVar 1) (fNil))))) (fNot (fTru (fCall g__is_integer (fCons (fVar 2) (fNil)))))) (sRet (fC (.bl false))) (sSkip))
  (sRet (fAndV (fBin gGe (fVar 2) (fC (.int 1))) (fBin gEq (fArgs gGcd (fCons (fVar 1) (fCons (fVar 2) (fNil)))) (fC (.int 1)))))))
def g_is_number : List D → S → Out D := arN 1 (den 3 m_is_number)
/-- is_form: 0 value, 1 size, 2 coefficient -/
def m_is_form : FS :=
  sSeq (sIf (fOr (fNot (fTru (fUn (gIsi "tuple") (fVar 0)))) (fIsB (fBin gNe (fArgs gLen (fCons (fVar 0) (fNil))) (fBin gAdd (fVar 1) (fC (.int 1)))))) (sRet (fC (.bl false))) (sSkip))
  (sRet (fArgs gAll (fCons (fLc [2] (fSeq (fVar 0)) (tgN 2) (fYes) (fCall g_is_number (fCons (fVar 2) (fNil)))) (fNil))))
def g_is_form : List D → S → Out D := arN 2 (den 3 m_is_form)
/-- is_flat: 0 form, 1 coefficient -/
def m_is_flat : FS :=
  sRet (fArgs gAll (fCons (fLc [1] (fSeq (fSl gSl (fVar 0) (fPart (fC (.int 1))) (fNo))) (tgN 1) (fYes) (fBin gEq (fVar 1) (fC c_ZERO))) (fNil)))
def g_is_flat : List D → S → Out D := arN 1 (den 2 m_is_flat)
/-- _law_truth_is: 0 answer, 1 due -/
def m__law_truth_is : FS :=
  sRet (fAndV (fUn (gIsi "bool") (fVar 0)) (fBin gEq (fVar 0) (fVar 1)))
def g__law_truth_is : List D → S → Out D := arN 2 (den 2 m__law_truth_is)
/-- _law_flat: 0 shape, 1 a -/
def m__law_flat : FS :=
  sSeq (sFor (fSl gSl (fVar 0) (fPart (fC (.int 1))) (fNo)) (tgN 1) (sIf (fIsB (fBin gNe (fBin gIx (fVar 1) (fC (.int 0))) (fC (.int 0)))) (sRet (fC (.bl false))) (sSkip)))
  (sRet (fC (.bl true)))
def g__law_flat : List D → S → Out D := arN 1 (den 2 m__law_flat)
/-- _law_kind_right: 0 bag, 1 shape, 2 wide, 3 other, 4 at, 5 factor, 6 a, 7 strange, 8 thing -/
def m__law_kind_right : FS :=
  sSeq (sIf (fOr (fNot (fTru (fCall g__law_truth_is (fCons (fCall g_is_form (fCons (fVar 1) (fCons (fVar 2) (fNil)))) (fCons (fC (.bl true)) (fNil)))))) (fNot (fTru (fCall g__law_truth_is (fCons (fCall g_is_flat (fCons (fVar 1) (fNil))) (fCons (fCall g__law_flat (fCons (fVar 1) (fNil))) (fNil))))))) (sRet (fC (.bl false))) (sSkip))
  (sSeq (sFor (fLst (fCons (fBin gAdd (fVar 2) (fC (.int 1))) (fCons (fBin gAdd (fVar 2) (fC (.int 2))) (fCons (fBin gSub (fVar 2) (fC (.int 1))) (fNil))))) (tgN 3) (sIf (fAnd (fIsB (fBin gGe (fVar 3) (fC (.int 0)))) (fNot (fTru (fCall g__law_truth_is (fCons (fCall g_is_form (fCons (fVar 1) (fCons (fVar 3) (fNil)))) (fCons (fC (.bl false)) (fNil))))))) (sRet (fC (.bl false))) (sSkip)))
  (sSeq (sSet 4 (fCall g__law_take (fCons (fVar 0) (fCons (fBin gAdd (fVar 2) (fC (.int 1))) (fNil)))))
  (sSeq (sSet 5 (fBin gAdd (fC (.int 2)) (fCall g__law_take (fCons (fVar 0) (fCons (fC (.int 8)) (fNil))))))
  (sSeq (sSet 6 (fBin gIx (fVar 1) (fVar 4)))
  (sSeq (sSet 7 (fLst (fCons (fTup (fCons (fBin gMul (fBin gIx (fVar 6) (fC (.int 0))) (fVar 5)) (fCons (fBin gMul (fBin gIx (fVar 6) (fC (.int 1))) (fVar 5)) (fNil)))) (fCons (fTup (fCons (fBin gIx (fVar 6) (fC (.int 0))) (fCons (fUn gNeg (fBin gIx (fVar 6) (fC (.int 1)))) (fNil)))) (fCons (fTup (fCons (fBin gIx (fVar 6) (fC (.int 0))) (fCons (fC (.int 0)) (fNil)))) (fCons (fBin gIx (fVar 6) (fC (.int 0))) (fCons (fLst (fCons (fBin gIx (fVar 6) (fC (.int 0))) (fCons (fBin gIx (fVar 6) (fC (.int 1))) (fNil)))) (fNil))))))))
  (sSeq (sFor (fBin gAdd (fVar 7) (fLst (fCons (fTup (fCons (fC (.bl true)) (fCons (fBin gIx (fVar 6) (fC (.int 1))) (fNil)))) (fCons (fC .non) (fCons (fTup (fCons (fVar 6) (fNil))) (fNil)))))) (tgN 8) (sIf (fNot (fTru (fCall g__law_truth_is (fCons (fCall g_is_form (fCons (fBin gAdd (fBin gAdd (fSl gSl (fVar 1) (fNo) (fPart (fVar 4))) (fTup (fCons (fVar 8) (fNil)))) (fSl gSl (fVar 1) (fPart (fBin gAdd (fVar 4) (fC (.int 1)))) (fNo))) (fCons (fVar 2) (fNil)))) (fCons (fC (.bl false)) (fNil)))))) (sRet (fC (.bl false))) (sSkip)))
  (sSeq (sFor (fLst (fCons (fArgs gList (fCons (fVar 1) (fNil))) (fCons (fBin gAdd (fVar 1) (fTup (fCons (fTup (fCons (fC (.int 0)) (fCons (fC (.int 1)) (fNil)))) (fNil)))) (fCons (fSl gSl (fVar 1) (fNo) (fPart (fUn gNeg (fC (.int 1))))) (fCons (fTup (fNil)) (fCons (fVar 6) (fCons (fC .non) (fCons (fVar 2) (fNil))))))))) (tgN 8) (sIf (fNot (fTru (fCall g__law_truth_is (fCons (fCall g_is_form (fCons (fVar 8) (fCons (fVar 2) (fNil)))) (fCons (fC (.bl false)) (fNil)))))) (sRet (fC (.bl false))) (sSkip)))
  (sRet (fC (.bl true))))))))))
def g__law_kind_right : List D → S → Out D := arN 3 (den 9 m__law_kind_right)
/-- _law_form_refused: 0 shape, 1 point, 2 e -/
def m__law_form_refused : FS :=
  sSeq (sTryAs 2 tx_FitError (sExpr (fCall g_value_at (fCons (fVar 0) (fCons (fVar 1) (fNil))))) (fun e k => sSeq (sIf (fOr (fTru (fIsX k e ti_BadNumber (fVar 2))) (fTru (fIsX k e ti_BadText (fVar 2)))) (sRet (fC (.bl false))) (sSkip))
  (sSeq (sIf (fOr (fTru (fIsX k e ti_BadSpan (fVar 2))) (fTru (fIsX k e ti_BadPlace (fVar 2)))) (sRet (fC (.bl false))) (sSkip))
  (sSeq (sIf (fOr (fNot (fTru (fIsX k e ti_BadForm (fVar 2)))) (fNot (fTru (fIsX k e ti_ValueError (fVar 2))))) (sRet (fC (.bl false))) (sSkip))
  (sRet (fCall g__law_form_is (fCons (fXf k e cs_form ("form" : Str) (fVar 2)) (fCons (fVar 0) (fNil)))))))))
  (sRet (fC (.bl false)))
def g__law_form_refused : List D → S → Out D := arN 2 (den 3 m__law_form_refused)
/-- _law_lengths_right: 0 shape, 1 point, 2 a, 3 more, 4 less -/
def m__law_lengths_right : FS :=
  sSeq (sFor (fLst (fCons (fC (.int 1)) (fCons (fC (.int 2)) (fCons (fC (.int 5)) (fNil))))) (tgN 3) (sIf (fNot (fTru (fCall g__law_form_refused (fCons (fVar 0) (fCons (fBin gAdd (fVar 1) (fBin gMulT (fTup (fCons (fVar 2) (fNil))) (fVar 3))) (fNil)))))) (sRet (fC (.bl false))) (sSkip)))
  (sSeq (sForR1 (fCons (fArgs gLen (fCons (fVar 1) (fNil))) (fNil)) (tgN 4) (sIf (fNot (fTru (fCall g__law_form_refused (fCons (fVar 0) (fCons (fSl gSl (fVar 1) (fNo) (fPart (fVar 4))) (fNil)))))) (sRet (fC (.bl false))) (sSkip)))
  (sRet (fC (.bl true))))
def g__law_lengths_right : List D → S → Out D := arN 3 (den 5 m__law_lengths_right)
/-- flat: 0 number, 1 size -/
def m_flat : FS :=
  sRet (fBin gAdd (fTup (fCons (fVar 0) (fNil))) (fBin gMulT (fTup (fCons (fC c_ZERO) (fNil))) (fVar 1)))
def g_flat : List D → S → Out D := arN 2 (den 2 m_flat)
def g_flat_ksize_number_0 : List D → S → Out D := withK 2 [] [1, 0] (arN 2 (den 2 m_flat))
/-- parameter: 0 index, 1 size -/
def m_parameter : FS :=
  sSeq (sIf (fOr (fIsB (fBin gLt (fVar 0) (fC (.int 1)))) (fIsB (fBin gGt (fVar 0) (fVar 1)))) (sRaise ("BadPlace" : Str) [("place" : Str)] (fCons (fVar 0) (fNil))) (sSkip))
  (sRet (fBin gAdd (fBin gAdd (fBin gMulT (fTup (fCons (fC c_ZERO) (fNil))) (fVar 0)) (fTup (fCons (fC c_ONE) (fNil)))) (fBin gMulT (fTup (fCons (fC c_ZERO) (fNil))) (fBin gSub (fVar 1) (fVar 0)))))
def g_parameter : List D → S → Out D := arN 2 (den 2 m_parameter)
def g_parameter_ksize_index_0 : List D → S → Out D := withK 2 [] [1, 0] (arN 2 (den 2 m_parameter))
/-- _law_place_refused: 0 at, 1 wide, 2 e -/
def m__law_place_refused : FS :=
  sSeq (sTryAs 2 tx_BadPlace (sExpr (fCall g_parameter (fCons (fVar 0) (fCons (fVar 1) (fNil))))) (fun e k => sSeq (sIf (fOr (fTru (fIsX k e ti_BadNumber (fVar 2))) (fTru (fIsX k e ti_BadText (fVar 2)))) (sRet (fC (.bl false))) (sSkip))
  (sSeq (sIf (fOr (fTru (fIsX k e ti_BadSpan (fVar 2))) (fTru (fIsX k e ti_BadForm (fVar 2)))) (sRet (fC (.bl false))) (sSkip))
  (sSeq (sIf (fOr (fNot (fTru (fIsX k e ti_FitError (fVar 2)))) (fNot (fTru (fIsX k e ti_ValueError (fVar 2))))) (sRet (fC (.bl false))) (sSkip))
  (sRet (fAndV (fCall g__law_integer (fCons (fXf k e cs_place ("place" : Str) (fVar 2)) (fNil))) (fBin gEq (fXf k e cs_place ("place" : Str) (fVar 2)) (fVar 0))))))))
  (sRet (fC (.bl false)))
def g__law_place_refused : List D → S → Out D := arN 2 (den 3 m__law_place_refused)
/-- _law_plain_right: 0 a, 1 point, 2 wide, 3 due, 4 k, 5 at -/
def m__law_plain_right : FS :=
  sSeq (sSet 2 (fArgs gLen (fCons (fVar 1) (fNil))))
  (sSeq (sSet 3 (fBin gAdd (fTup (fCons (fVar 0) (fNil))) (fBin gMulT (fTup (fCons (fTup (fCons (fC (.int 0)) (fCons (fC (.int 1)) (fNil)))) (fNil))) (fVar 2))))
  (sSeq (sIf (fOr (fNot (fTru (fCall g__law_agrees (fCons (fCall g_flat (fCons (fVar 0) (fCons (fVar 2) (fNil)))) (fCons (fVar 3) (fCons (fVar 1) (fNil))))))) (fNot (fTru (fCall g__law_form_is (fCons (fCall g_flat_ksize_number_0 (fCons (fVar 2) (fCons (fVar 0) (fNil)))) (fCons (fVar 3) (fNil))))))) (sRet (fC (.bl false))) (sSkip))
  (sSeq (sIf (fNot (fTru (fCall g__law_truth_is (fCons (fCall g_is_flat (fCons (fVar 3) (fNil))) (fCons (fC (.bl true)) (fNil)))))) (sRet (fC (.bl false))) (sSkip))
  (sSeq (sForR1 (fCons (fVar 2) (fNil)) (tgN 4) (sSeq (sSet 3 (fBin gAdd (fBin gAdd (fBin gMulT (fTup (fCons (fTup (fCons (fC (.int 0)) (fCons (fC (.int 1)) (fNil)))) (fNil))) (fBin gAdd (fVar 4) (fC (.int 1)))) (fTup (fCons (fTup (fCons (fC (.int 1)) (fCons (fC (.int 1)) (fNil)))) (fNil)))) (fBin gMulT (fTup (fCons (fTup (fCons (fC (.int 0)) (fCons (fC (.int 1)) (fNil)))) (fNil))) (fBin gSub (fBin gSub (fVar 2) (fVar 4)) (fC (.int 1))))))
  (sSeq (sIf (fNot (fTru (fCall g__law_agrees (fCons (fCall g_parameter (fCons (fBin gAdd (fVar 4) (fC (.int 1))) (fCons (fVar 2) (fNil)))) (fCons (fVar 3) (fCons (fVar 1) (fNil))))))) (sRet (fC (.bl false))) (sSkip))
  (sSeq (sIf (fNot (fTru (fCall g__law_form_is (fCons (fCall g_parameter_ksize_index_0 (fCons (fVar 2) (fCons (fBin gAdd (fVar 4) (fC (.int 1))) (fNil)))) (fCons (fVar 3) (fNil)))))) (sRet (fC (.bl false))) (sSkip))
  (sIf (fNot (fTru (fCall g__law_truth_is (fCons (fCall g_is_flat (fCons (fVar 3) (fNil))) (fCons (fC (.bl false)) (fNil)))))) (sRet (fC (.bl false))) (sSkip))))))
  (sSeq (sFor (fLst (fCons (fC (.int 0)) (fCons (fUn gNeg (fC (.int 1))) (fCons (fBin gAdd (fVar 2) (fC (.int 1))) (fCons (fBin gAdd (fVar 2) (fC (.int 7))) (fNil)))))) (tgN 5) (sIf (fNot (fTru (fCall g__law_place_refused (fCons (fVar 5) (fCons (fVar 2) (fNil)))))) (sRet (fC (.bl false))) (sSkip)))
  (sRet (fC (.bl true))))))))
def g__law_plain_right : List D → S → Out D := arN 2 (den 6 m__law_plain_right)
/-- form_total: 0 forms, 1 size, 2 result, 3 form -/
def m_form_total : FS :=
  sSeq (sSet 2 (fCall g_flat (fCons (fC c_ZERO) (fCons (fVar 1) (fNil)))))
  (sSeq (sFor (fVar 0) (tgN 3) (sSet 2 (fCall g_form_plus (fCons (fVar 2) (fCons (fVar 3) (fNil))))))
  (sRet (fVar 2)))
def g_form_total : List D → S → Out D := arN 2 (den 4 m_form_total)
/-- _law_total_right: 0 bag, 1 forms, 2 wide, 3 few, 4 k, 5 due, 6 given, 7 answer -/
def m__law_total_right : FS :=
  sSeq (sSet 3 (fLst (fNil)))
  (sSeq (sForR1 (fCons (fCall g__law_take (fCons (fVar 0) (fCons (fC (.int 7)) (fNil)))) (fNil)) (tgN 4) (sExpr (fLM gAppend (fVar 3) (fCons (fCall g__law_pick (fCons (fVar 0) (fCons (fVar 1) (fNil)))) (fNil)))))
  (sSeq (sSet 5 (fCall g__law_forms_sum (fCons (fVar 3) (fCons (fVar 2) (fNil)))))
  (sSeq (sSet 6 (fArgs gList (fCons (fVar 3) (fNil))))
  (sSeq (sSet 7 (fCall g_form_total (fCons (fVar 6) (fCons (fVar 2) (fNil)))))
  (sSeq (sIf (fOr (fNot (fTru (fCall g__law_form_is (fCons (fVar 7) (fCons (fVar 5) (fNil)))))) (fIsB (fBin gNe (fArgs gLen (fCons (fVar 6) (fNil))) (fArgs gLen (fCons (fVar 3) (fNil)))))) (sRet (fC (.bl false))) (sSkip))
  (sSeq (sForR1 (fCons (fArgs gLen (fCons (fVar 3) (fNil))) (fNil)) (tgN 4) (sIf (fNot (fTru (fCall g__law_form_is (fCons (fBin gIx (fVar 6) (fVar 4)) (fCons (fBin gIx (fVar 3) (fVar 4)) (fNil)))))) (sRet (fC (.bl false))) (sSkip)))
  (sSeq (sIf (fNot (fTru (fCall g__law_form_is (fCons (fCall g_form_total (fCons (fArgs gTuple (fCons (fVar 3) (fNil))) (fCons (fVar 2) (fNil)))) (fCons (fVar 5) (fNil)))))) (sRet (fC (.bl false))) (sSkip))
  (sRet (fCall g__law_form_is (fCons (fCall g_form_total (fCons (fLst (fNil)) (fCons (fVar 2) (fNil)))) (fCons (fBin gMulT (fTup (fCons (fTup (fCons (fC (.int 0)) (fCons (fC (.int 1)) (fNil)))) (fNil))) (fBin gAdd (fVar 2) (fC (.int 1)))) (fNil))))))))))))
def g__law_total_right : List D → S → Out D := arN 3 (den 8 m__law_total_right)
/-- law: 0 script, 1 bag, 2 pool, 3 wide, 4 forms, 5 k, 6 row, 7 point, 8 shape -/
def m_law : FS :=
  sSeq (sSet 1 (fCall g__law_bag (fCons (fVar 0) (fNil))))
  (sSeq (sSet 2 (fCall g__law_numbers (fCons (fVar 1) (fCons (fBin gAdd (fC (.int 2)) (fCall g__law_take (fCons (fVar 1) (fCons (fC (.int 5)) (fNil))))) (fNil)))))
  (sSeq (sSet 3 (fCall g__law_take (fCons (fVar 1) (fCons (fC (.int 7)) (fNil)))))
  (sSeq (sSet 4 (fLst (fNil)))
  (sSeq (sForR1 (fCons (fBin gAdd (fC (.int 1)) (fCall g__law_take (fCons (fVar 1) (fCons (fC (.int 5)) (fNil))))) (fNil)) (tgN 5) (sExpr (fLM gAppend (fVar 4) (fCons (fCall g__law_form (fCons (fVar 1) (fCons (fVar 2) (fCons (fVar 3) (fNil))))) (fNil)))))
  (sSeq (sSet 6 (fLst (fNil)))
  (sSeq (sForR1 (fCons (fVar 3) (fNil)) (tgN 5) (sExpr (fLM gAppend (fVar 6) (fCons (fCall g__law_pick (fCons (fVar 1) (fCons (fVar 2) (fNil)))) (fNil)))))
  (sSeq (sSet 7 (fArgs gTuple (fCons (fVar 6) (fNil))))
  (sSeq (sFor (fVar 4) (tgN 8) (sSeq (sIf (fNot (fTru (fCall g__law_two_right (fCons (fVar 8) (fCons (fCall g__law_pick (fCons (fVar 1) (fCons (fVar 4) (fNil)))) (fCons (fVar 7) (fCons (fCall g__law_pick (fCons (fVar 1) (fCons (fVar 2) (fNil)))) (fNil)))))))) (sRet (fC (.bl false))) (sSkip))
  (sIf (fOr (fNot (fTru (fCall g__law_kind_right (fCons (fVar 1) (fCons (fVar 8) (fCons (fVar 3) (fNil))))))) (fNot (fTru (fCall g__law_lengths_right (fCons (fVar 8) (fCons (fVar 7) (fCons (fBin gIx (fVar 2) (fC (.int 0))) (fNil)))))))) (sRet (fC (.bl false))) (sSkip))))
  (sSeq (sIf (fNot (fTru (fCall g__law_plain_right (fCons (fCall g__law_pick (fCons (fVar 1) (fCons (fVar 2) (fNil)))) (fCons (fVar 7) (fNil)))))) (sRet (fC (.bl false))) (sSkip))
  (sRet (fCall g__law_total_right (fCons (fVar 1) (fCons (fVar 4) (fCons (fVar 3) (fNil)))))))))))))))
def g_law : List D → S → Out D := arN 1 (den 9 m_law)
end
end K03

set_option Elab.async false
set_option linter.all false
set_option maxRecDepth 100000
set_option maxHeartbeats 0
/-! law_k03_forms_at_points: each def does as its denotation says (printed by gen.py) -/
namespace K03
open PySem PySem.Spec PyProof.Rows L2 MP
def top (i : Nat) : Stmt := PySem.Challenge.pw_pagefit_k03_forms_at_points.main.body.getD i (.Pass ⟨0, 0, 0, 0⟩)
abbrev st__law_bag : Stmt := top 28
abbrev st__law_mixed : Stmt := top 29
abbrev st__law_take : Stmt := top 30
abbrev st__law_large : Stmt := top 31
abbrev st__law_divisor : Stmt := top 32
abbrev st__law_lowest : Stmt := top 33
abbrev st__law_beside : Stmt := top 34
abbrev st__law_number : Stmt := top 35
abbrev st__law_numbers : Stmt := top 36
abbrev st__law_pick : Stmt := top 39
abbrev st__law_form : Stmt := top 40
abbrev st_ratio : Stmt := top 11
abbrev st_plus : Stmt := top 14
abbrev st_form_plus : Stmt := top 22
abbrev st_minus : Stmt := top 15
abbrev st_form_minus : Stmt := top 23
abbrev st_times : Stmt := top 16
abbrev st_form_times : Stmt := top 24
abbrev st_value_at : Stmt := top 26
abbrev st__law_integer : Stmt := top 37
abbrev st__law_is : Stmt := top 38
abbrev st__law_sum : Stmt := top 42
abbrev st__law_forms_sum : Stmt := top 44
abbrev st__law_product : Stmt := top 43
abbrev st__law_scaled : Stmt := top 45
abbrev st__law_worth : Stmt := top 46
abbrev st__law_form_is : Stmt := top 41
abbrev st__law_keeps : Stmt := top 47
abbrev st__law_agrees : Stmt := top 49
abbrev st__law_two_right : Stmt := top 50
abbrev st__is_integer : Stmt := top 13
abbrev st_is_number : Stmt := top 12
abbrev st_is_form : Stmt := top 20
abbrev st_is_flat : Stmt := top 21
abbrev st__law_truth_is : Stmt := top 48
abbrev st__law_flat : Stmt := top 51
abbrev st__law_kind_right : Stmt := top 52
abbrev st__law_form_refused : Stmt := top 53
abbrev st__law_lengths_right : Stmt := top 54
abbrev st_flat : Stmt := top 18
abbrev st_parameter : Stmt := top 19
abbrev st__law_place_refused : Stmt := top 55
abbrev st__law_plain_right : Stmt := top 56
abbrev st_form_total : Stmt := top 25
abbrev st__law_total_right : Stmt := top 57
abbrev st_law : Stmt := top 58
theorem sc__law_bag : FnScope [("script" : Str), ("bag" : Str), ("cell" : Str)] [("script" : Str)] (defScope st__law_bag) := ⟨rfl, rfl, rfl, by decide +kernel, rfl, by decide +kernel, by decide +kernel⟩
theorem sc__law_mixed : FnScope [("cell" : Str), ("turn" : Str), ("first" : Str), ("second" : Str)] [("cell" : Str), ("turn" : Str)] (defScope st__law_mixed) := ⟨rfl, rfl, rfl, by decide +kernel, rfl, by decide +kernel, by decide +kernel⟩
theorem sc__law_take : FnScope [("bag" : Str), ("many" : Str), ("cell" : Str)] [("bag" : Str), ("many" : Str)] (defScope st__law_take) := ⟨rfl, rfl, rfl, by decide +kernel, rfl, by decide +kernel, by decide +kernel⟩
theorem sc__law_large : FnScope [("bag" : Str), ("grown" : Str), ("k" : Str)] [("bag" : Str)] (defScope st__law_large) := ⟨rfl, rfl, rfl, by decide +kernel, rfl, by decide +kernel, by decide +kernel⟩
theorem sc__law_divisor : FnScope [("a" : Str), ("b" : Str), ("k" : Str)] [("a" : Str), ("b" : Str)] (defScope st__law_divisor) := ⟨rfl, rfl, rfl, by decide +kernel, rfl, by decide +kernel, by decide +kernel⟩
theorem sc__law_lowest : FnScope [("above" : Str), ("below" : Str), ("divisor" : Str)] [("above" : Str), ("below" : Str)] (defScope st__law_lowest) := ⟨rfl, rfl, rfl, by decide +kernel, rfl, by decide +kernel, by decide +kernel⟩
theorem sc__law_beside : FnScope [("bag" : Str), ("before" : Str), ("way" : Str), ("side" : Str), ("mate" : Str), ("factor" : Str)] [("bag" : Str), ("before" : Str), ("way" : Str), ("side" : Str)] (defScope st__law_beside) := ⟨rfl, rfl, rfl, by decide +kernel, rfl, by decide +kernel, by decide +kernel⟩
theorem sc__law_number : FnScope [("bag" : Str), ("before" : Str), ("way" : Str), ("side" : Str), ("above" : Str)] [("bag" : Str), ("before" : Str)] (defScope st__law_number) := ⟨rfl, rfl, rfl, by decide +kernel, rfl, by decide +kernel, by decide +kernel⟩
theorem sc__law_numbers : FnScope [("bag" : Str), ("many" : Str), ("row" : Str), ("k" : Str)] [("bag" : Str), ("many" : Str)] (defScope st__law_numbers) := ⟨rfl, rfl, rfl, by decide +kernel, rfl, by decide +kernel, by decide +kernel⟩
theorem sc__law_pick : FnScope [("bag" : Str), ("pool" : Str)] [("bag" : Str), ("pool" : Str)] (defScope st__law_pick) := ⟨rfl, rfl, rfl, by decide +kernel, rfl, by decide +kernel, by decide +kernel⟩
theorem sc__law_form : FnScope [("bag" : Str), ("pool" : Str), ("wide" : Str), ("way" : Str), ("row" : Str), ("k" : Str)] [("bag" : Str), ("pool" : Str), ("wide" : Str)] (defScope st__law_form) := ⟨rfl, rfl, rfl, by decide +kernel, rfl, by decide +kernel, by decide +kernel⟩
theorem sc_ratio : FnScope [("top" : Str), ("bottom" : Str), ("divisor" : Str)] [("top" : Str), ("bottom" : Str)] (defScope st_ratio) := ⟨rfl, rfl, rfl, by decide +kernel, rfl, by decide +kernel, by decide +kernel⟩
theorem sc_plus : FnScope [("a" : Str), ("b" : Str)] [("a" : Str), ("b" : Str)] (defScope st_plus) := ⟨rfl, rfl, rfl, by decide +kernel, rfl, by decide +kernel, by decide +kernel⟩
theorem sc_form_plus : FnScope [("a" : Str), ("b" : Str), ("one" : Str), ("other" : Str)] [("a" : Str), ("b" : Str)] (defScope st_form_plus) := ⟨rfl, rfl, rfl, by decide +kernel, rfl, by decide +kernel, by decide +kernel⟩
theorem sc_minus : FnScope [("a" : Str), ("b" : Str)] [("a" : Str), ("b" : Str)] (defScope st_minus) := ⟨rfl, rfl, rfl, by decide +kernel, rfl, by decide +kernel, by decide +kernel⟩
theorem sc_form_minus : FnScope [("a" : Str), ("b" : Str), ("one" : Str), ("other" : Str)] [("a" : Str), ("b" : Str)] (defScope st_form_minus) := ⟨rfl, rfl, rfl, by decide +kernel, rfl, by decide +kernel, by decide +kernel⟩
theorem sc_times : FnScope [("a" : Str), ("b" : Str)] [("a" : Str), ("b" : Str)] (defScope st_times) := ⟨rfl, rfl, rfl, by decide +kernel, rfl, by decide +kernel, by decide +kernel⟩
theorem sc_form_times : FnScope [("form" : Str), ("number" : Str), ("coefficient" : Str)] [("form" : Str), ("number" : Str)] (defScope st_form_times) := ⟨rfl, rfl, rfl, by decide +kernel, rfl, by decide +kernel, by decide +kernel⟩
theorem sc_value_at : FnScope [("form" : Str), ("point" : Str), ("value" : Str), ("coefficient" : Str), ("number" : Str)] [("form" : Str), ("point" : Str)] (defScope st_value_at) := ⟨rfl, rfl, rfl, by decide +kernel, rfl, by decide +kernel, by decide +kernel⟩
theorem sc__law_integer : FnScope [("thing" : Str)] [("thing" : Str)] (defScope st__law_integer) := ⟨rfl, rfl, rfl, by decide +kernel, rfl, by decide +kernel, by decide +kernel⟩
theorem sc__law_is : FnScope [("answer" : Str), ("due" : Str)] [("answer" : Str), ("due" : Str)] (defScope st__law_is) := ⟨rfl, rfl, rfl, by decide +kernel, rfl, by decide +kernel, by decide +kernel⟩
theorem sc__law_sum : FnScope [("few" : Str), ("above" : Str), ("below" : Str), ("a" : Str)] [("few" : Str)] (defScope st__law_sum) := ⟨rfl, rfl, rfl, by decide +kernel, rfl, by decide +kernel, by decide +kernel⟩
theorem sc__law_forms_sum : FnScope [("forms" : Str), ("wide" : Str), ("row" : Str), ("k" : Str), ("shape" : Str)] [("forms" : Str), ("wide" : Str)] (defScope st__law_forms_sum) := ⟨rfl, rfl, rfl, by decide +kernel, rfl, by decide +kernel, by decide +kernel⟩
theorem sc__law_product : FnScope [("a" : Str), ("b" : Str)] [("a" : Str), ("b" : Str)] (defScope st__law_product) := ⟨rfl, rfl, rfl, by decide +kernel, rfl, by decide +kernel, by decide +kernel⟩
theorem sc__law_scaled : FnScope [("shape" : Str), ("factor" : Str), ("a" : Str)] [("shape" : Str), ("factor" : Str)] (defScope st__law_scaled) := ⟨rfl, rfl, rfl, by decide +kernel, rfl, by decide +kernel, by decide +kernel⟩
theorem sc__law_worth : FnScope [("shape" : Str), ("point" : Str), ("few" : Str), ("k" : Str)] [("shape" : Str), ("point" : Str)] (defScope st__law_worth) := ⟨rfl, rfl, rfl, by decide +kernel, rfl, by decide +kernel, by decide +kernel⟩
theorem sc__law_form_is : FnScope [("answer" : Str), ("due" : Str), ("k" : Str)] [("answer" : Str), ("due" : Str)] (defScope st__law_form_is) := ⟨rfl, rfl, rfl, by decide +kernel, rfl, by decide +kernel, by decide +kernel⟩
theorem sc__law_keeps : FnScope [("shape" : Str), ("a" : Str)] [("shape" : Str)] (defScope st__law_keeps) := ⟨rfl, rfl, rfl, by decide +kernel, rfl, by decide +kernel, by decide +kernel⟩
theorem sc__law_agrees : FnScope [("answer" : Str), ("due" : Str), ("point" : Str)] [("answer" : Str), ("due" : Str), ("point" : Str)] (defScope st__law_agrees) := ⟨rfl, rfl, rfl, by decide +kernel, rfl, by decide +kernel, by decide +kernel⟩
theorem sc__law_two_right : FnScope [("one" : Str), ("two" : Str), ("point" : Str), ("factor" : Str), ("wide" : Str), ("less" : Str), ("by" : Str)] [("one" : Str), ("two" : Str), ("point" : Str), ("factor" : Str)] (defScope st__law_two_right) := ⟨rfl, rfl, rfl, by decide +kernel, rfl, by decide +kernel, by decide +kernel⟩
theorem sc__is_integer : FnScope [("value" : Str)] [("value" : Str)] (defScope st__is_integer) := ⟨rfl, rfl, rfl, by decide +kernel, rfl, by decide +kernel, by decide +kernel⟩
theorem sc_is_number : FnScope [("value" : Str), ("top" : Str), ("bottom" : Str)] [("value" : Str)] (defScope st_is_number) := ⟨rfl, rfl, rfl, by decide +kernel, rfl, by decide +kernel, by decide +kernel⟩
theorem sc_is_form : FnScope [("value" : Str), ("size" : Str), ("coefficient" : Str)] [("value" : Str), ("size" : Str)] (defScope st_is_form) := ⟨rfl, rfl, rfl, by decide +kernel, rfl, by decide +kernel, by decide +kernel⟩
theorem sc_is_flat : FnScope [("form" : Str), ("coefficient" : Str)] [("form" : Str)] (defScope st_is_flat) := ⟨rfl, rfl, rfl, by decide +kernel, rfl, by decide +kernel, by decide +kernel⟩
theorem sc__law_truth_is : FnScope [("answer" : Str), ("due" : Str)] [("answer" : Str), ("due" : Str)] (defScope st__law_truth_is) := ⟨rfl, rfl, rfl, by decide +kernel, rfl, by decide +kernel, by decide +kernel⟩
theorem sc__law_flat : FnScope [("shape" : Str), ("a" : Str)] [("shape" : Str)] (defScope st__law_flat) := ⟨rfl, rfl, rfl, by decide +kernel, rfl, by decide +kernel, by decide +kernel⟩
theorem sc__law_kind_right : FnScope [("bag" : Str), ("shape" : Str), ("wide" : Str), ("other" : Str), ("at" : Str), ("factor" : Str), ("a" : Str), ("strange" : Str), ("thing" : Str)] [("bag" : Str), ("shape" : Str), ("wide" : Str)] (defScope st__law_kind_right) := ⟨rfl, rfl, rfl, by decide +kernel, rfl, by decide +kernel, by decide +kernel⟩
theorem sc__law_form_refused : FnScope [("shape" : Str), ("point" : Str), ("e" : Str)] [("shape" : Str), ("point" : Str)] (defScope st__law_form_refused) := ⟨rfl, rfl, rfl, by decide +kernel, rfl, by decide +kernel, by decide +kernel⟩
theorem sc__law_lengths_right : FnScope [("shape" : Str), ("point" : Str), ("a" : Str), ("more" : Str), ("less" : Str)] [("shape" : Str), ("point" : Str), ("a" : Str)] (defScope st__law_lengths_right) := ⟨rfl, rfl, rfl, by decide +kernel, rfl, by decide +kernel, by decide +kernel⟩
theorem sc_flat : FnScope [("number" : Str), ("size" : Str)] [("number" : Str), ("size" : Str)] (defScope st_flat) := ⟨rfl, rfl, rfl, by decide +kernel, rfl, by decide +kernel, by decide +kernel⟩
theorem sc_parameter : FnScope [("index" : Str), ("size" : Str)] [("index" : Str), ("size" : Str)] (defScope st_parameter) := ⟨rfl, rfl, rfl, by decide +kernel, rfl, by decide +kernel, by decide +kernel⟩
theorem sc__law_place_refused : FnScope [("at" : Str), ("wide" : Str), ("e" : Str)] [("at" : Str), ("wide" : Str)] (defScope st__law_place_refused) := ⟨rfl, rfl, rfl, by decide +kernel, rfl, by decide +kernel, by decide +kernel⟩
theorem sc__law_plain_right : FnScope [("a" : Str), ("point" : Str), ("wide" : Str), ("due" : Str), ("k" : Str), ("at" : Str)] [("a" : Str), ("point" : Str)] (defScope st__law_plain_right) := ⟨rfl, rfl, rfl, by decide +kernel, rfl, by decide +kernel, by decide +kernel⟩
theorem sc_form_total : FnScope [("forms" : Str), ("size" : Str), ("result" : Str), ("form" : Str)] [("forms" : Str), ("size" : Str)] (defScope st_form_total) := ⟨rfl, rfl, rfl, by decide +kernel, rfl, by decide +kernel, by decide +kernel⟩
theorem sc__law_total_right : FnScope [("bag" : Str), ("forms" : Str), ("wide" : Str), ("few" : Str), ("k" : Str), ("due" : Str), ("given" : Str), ("answer" : Str)] [("bag" : Str), ("forms" : Str), ("wide" : Str)] (defScope st__law_total_right) := ⟨rfl, rfl, rfl, by decide +kernel, rfl, by decide +kernel, by decide +kernel⟩
theorem sc_law : FnScope [("script" : Str), ("bag" : Str), ("pool" : Str), ("wide" : Str), ("forms" : Str), ("k" : Str), ("row" : Str), ("point" : Str), ("shape" : Str)] [("script" : Str)] (defScope st_law) := ⟨rfl, rfl, rfl, by decide +kernel, rfl, by decide +kernel, by decide +kernel⟩
theorem fn_BadForm : FN [("form" : Str)] := ⟨by decide, by decide +kernel, by decide +kernel, fields1 (by unfold Bound1; intros; first | rfl | with_unfolding_all rfl), by decide⟩
theorem fn_BadNumber : FN [("value" : Str)] := ⟨by decide, by decide +kernel, by decide +kernel, fields1 (by unfold Bound1; intros; first | rfl | with_unfolding_all rfl), by decide⟩
theorem fn_BadPlace : FN [("place" : Str)] := ⟨by decide, by decide +kernel, by decide +kernel, fields1 (by unfold Bound1; intros; first | rfl | with_unfolding_all rfl), by decide⟩
structure Gs (P : Program) (K : PySem.W.Frag) (mg : Str → Option Value) : Prop where
  free_ValueError : mg ("ValueError" : Str) = none
  free_abs : mg ("abs" : Str) = none
  free_all : mg ("all" : Str) = none
  free_bool : mg ("bool" : Str) = none
  free_int : mg ("int" : Str) = none
  free_isinstance : mg ("isinstance" : Str) = none
  free_len : mg ("len" : Str) = none
  free_list : mg ("list" : Str) = none
  free_range : mg ("range" : Str) = none
  free_sum : mg ("sum" : Str) = none
  free_tuple : mg ("tuple" : Str) = none
  free_zip : mg ("zip" : Str) = none
  blt_gcd : mg ("gcd" : Str) = some (.builtin "math.gcd")
  glo_BadForm : mg ("BadForm" : Str) = some (.ref (He.ga K ("BadForm" : Str)))
  glo_BadNumber : mg ("BadNumber" : Str) = some (.ref (He.ga K ("BadNumber" : Str)))
  glo_BadPlace : mg ("BadPlace" : Str) = some (.ref (He.ga K ("BadPlace" : Str)))
  glo_BadSpan : mg ("BadSpan" : Str) = some (.ref (He.ga K ("BadSpan" : Str)))
  glo_BadText : mg ("BadText" : Str) = some (.ref (He.ga K ("BadText" : Str)))
  glo_FitError : mg ("FitError" : Str) = some (.ref (He.ga K ("FitError" : Str)))
  const_ONE : ∃ u, mg ("ONE" : Str) = some u ∧ KD K c_ONE u
  const_ZERO : ∃ u, mg ("ZERO" : Str) = some u ∧ KD K c_ZERO u
  exc_BadForm : ExcOk P K mg ("BadForm" : Str) [("form" : Str)]
  exc_BadNumber : ExcOk P K mg ("BadNumber" : Str) [("value" : Str)]
  exc_BadPlace : ExcOk P K mg ("BadPlace" : Str) [("place" : Str)]
  tx_FitError : Tab K mg (.ref (He.ga K ("FitError" : Str))) tx_FitError
  tx_BadPlace : Tab K mg (.ref (He.ga K ("BadPlace" : Str))) tx_BadPlace
  ti_BadNumber : TabI K mg (.ref (He.ga K ("BadNumber" : Str))) ti_BadNumber
  ti_BadText : TabI K mg (.ref (He.ga K ("BadText" : Str))) ti_BadText
  ti_BadSpan : TabI K mg (.ref (He.ga K ("BadSpan" : Str))) ti_BadSpan
  ti_BadPlace : TabI K mg (.ref (He.ga K ("BadPlace" : Str))) ti_BadPlace
  ti_BadForm : TabI K mg (.ref (He.ga K ("BadForm" : Str))) ti_BadForm
  ti_ValueError : TabI K mg (.type "ValueError") ti_ValueError
  ti_FitError : TabI K mg (.ref (He.ga K ("FitError" : Str))) ti_FitError
  fld_form : FldOk K mg cs_form ("form" : Str)
  fld_place : FldOk K mg cs_place ("place" : Str)
section
variable {P : Program} {w : World} {K : PySem.W.Frag} {mg : Str → Option Value} {base : Heap}
theorem jb__law_bag (G : Gs P K mg)  {f : Addr} {cdv : Value} {A : Around} {outer : List PySem.Env} {s : Shared} {H : Hp} {E : XK} (hr : Room 0 (A.deeper (envOfC ("_law_bag" : Str) (defScope st__law_bag) s.heap.objs.size f cdv))) :
    JB (cxOf (L2N.CX P w) P w K mg base [("script" : Str), ("bag" : Str), ("cell" : Str)] ("_law_bag" : Str) (defScope st__law_bag) f cdv A outer s H E) (wcE E) (defBody st__law_bag) m__law_bag :=
  (jb_cons (js_set (i := 1) sc__law_bag.nd rfl (Or.inl rfl) (je_lst (ja_cons je_int (ja_cons (je_op opd_mod (je_callTy cad_int rfl G.free_int bt_int (ja_cons (je_callB (cad_sum rfl) rfl G.free_sum bt_sum (ja_cons (je_sl sld (je_var 0) jo_no (jo_part je_int)) ja_nil)) ja_nil)) je_int) ja_nil)) (flen_cons (flen_cons flen_nil))))
  (jb_cons (js_for (L2.passes_of rfl) rfl (je_sl sld (je_var 0) jo_no (jo_part je_int)) (jg_name (i := 2) sc__law_bag.nd rfl (Or.inl rfl)) (jb_one (js_if (jt_cmp opd_ge (je_callB cad_abs rfl G.free_abs bt_abs (ja_cons (je_callTy cad_int rfl G.free_int bt_int (ja_cons (je_var 2) ja_nil)) ja_nil)) (je_op opd_pow je_int je_int) rfl) (jb_one (js_expr (je_lm PySem.F.slot_list_append PySem.F.type_list_append mtd_append (je_var 1) (ja_cons (je_callB cad_abs rfl G.free_abs bt_abs (ja_cons (je_callTy cad_int rfl G.free_int bt_int (ja_cons (je_var 2) ja_nil)) ja_nil)) ja_nil)))) (jb_one (js_expr (je_lm PySem.F.slot_list_append PySem.F.type_list_append mtd_append (je_var 1) (ja_cons (je_op opd_sub (je_un und_neg je_int) (je_callB cad_abs rfl G.free_abs bt_abs (ja_cons (je_callTy cad_int rfl G.free_int bt_int (ja_cons (je_var 2) ja_nil)) ja_nil))) ja_nil)))))))
  (jb_one (js_ret (je_var 1)))))
theorem d__law_bag (G : Gs P K mg)  (gm : mg ("_law_bag" : Str) = some (.ref (He.fAd K (("_law_bag" : Str), none)))) {fd : FuncData} (F : FunD K ("_law_bag" : Str) ("_law_bag" : Str) (defArgs st__law_bag) (defBody st__law_bag) (defScope st__law_bag) [] [] (He.fAd K (("_law_bag" : Str), none)) fd) : DefOk false P w K mg base ("_law_bag" : Str) [] 1 g__law_bag :=
  ⟨_, gm, F.kp, rn_pos (hot := false) (def_ok F sc__law_bag fun cdv A outer s H E hr => jb__law_bag G  hr) rfl (F.bindsN fun _ _ _ _ _ _ us hl => match us, hl with | [_], _ => rfl)⟩
theorem jb__law_mixed (G : Gs P K mg)  {f : Addr} {cdv : Value} {A : Around} {outer : List PySem.Env} {s : Shared} {H : Hp} {E : XK} (hr : Room 0 (A.deeper (envOfC ("_law_mixed" : Str) (defScope st__law_mixed) s.heap.objs.size f cdv))) :
    JB (cxOf (L2N.CX P w) P w K mg base [("cell" : Str), ("turn" : Str), ("first" : Str), ("second" : Str)] ("_law_mixed" : Str) (defScope st__law_mixed) f cdv A outer s H E) (wcE E) (defBody st__law_mixed) m__law_mixed :=
  (jb_cons (js_set (i := 2) sc__law_mixed.nd rfl (Or.inl rfl) (je_op opd_mod (je_callTy cad_int rfl G.free_int bt_int (ja_cons (je_op opd_add (je_op opd_add (je_op opd_mul (je_var 0) je_int) (je_op opd_mul (je_var 1) je_int)) je_int) ja_nil)) je_int))
  (jb_cons (js_set (i := 3) sc__law_mixed.nd rfl (Or.inl rfl) (je_op opd_mod (je_callTy cad_int rfl G.free_int bt_int (ja_cons (je_op opd_add (je_op opd_add (je_op opd_mul (je_var 2) (je_var 2)) (je_op opd_mul (je_var 2) je_int)) (je_op opd_mul (je_var 1) je_int)) ja_nil)) je_int))
  (jb_one (js_ret (je_op opd_div (je_op opd_mod (je_callTy cad_int rfl G.free_int bt_int (ja_cons (je_op opd_add (je_op opd_mul (je_var 3) je_int) (je_op opd_div (je_var 2) je_int)) ja_nil)) je_int) je_int)))))
theorem d__law_mixed (G : Gs P K mg)  (gm : mg ("_law_mixed" : Str) = some (.ref (He.fAd K (("_law_mixed" : Str), none)))) {fd : FuncData} (F : FunD K ("_law_mixed" : Str) ("_law_mixed" : Str) (defArgs st__law_mixed) (defBody st__law_mixed) (defScope st__law_mixed) [] [] (He.fAd K (("_law_mixed" : Str), none)) fd) : DefOk false P w K mg base ("_law_mixed" : Str) [] 1 g__law_mixed :=
  ⟨_, gm, F.kp, rn_pos (hot := false) (def_ok F sc__law_mixed fun cdv A outer s H E hr => jb__law_mixed G  hr) rfl (F.bindsN fun _ _ _ _ _ _ us hl => match us, hl with | [_, _], _ => rfl)⟩
theorem jb__law_take (G : Gs P K mg) (d__law_mixed : DefOk false P w K mg base ("_law_mixed" : Str) [] 1 g__law_mixed) {f : Addr} {cdv : Value} {A : Around} {outer : List PySem.Env} {s : Shared} {H : Hp} {E : XK} (hr : Room 1 (A.deeper (envOfC ("_law_take" : Str) (defScope st__law_take) s.heap.objs.size f cdv))) :
    JB (cxOf (L2N.CX P w) P w K mg base [("bag" : Str), ("many" : Str), ("cell" : Str)] ("_law_take" : Str) (defScope st__law_take) f cdv A outer s H E) (wcE E) (defBody st__law_take) m__law_take :=
  (jb_cons (js_store (je_var 0) je_int (je_op opd_add (je_ix ixd (je_var 0) je_int) je_int) (fun _ => rfl))
  (jb_cons (js_if (jt_cmp opd_lt (je_callB cad_len rfl G.free_len bt_len (ja_cons (je_var 0) ja_nil)) je_int rfl) (jb_one (js_ret (je_op opd_mod (je_callTy cad_int rfl G.free_int bt_int (ja_cons (je_call d__law_mixed (hr.mono (by decide)) (L2N.takes_of rfl rfl rfl rfl) rfl (ja_cons (je_ix ixd (je_var 0) je_int) (ja_cons (je_ix ixd (je_var 0) je_int) ja_nil))) ja_nil)) (je_var 1)))) jb_nil)
  (jb_cons (js_set (i := 2) sc__law_take.nd rfl (Or.inl rfl) (je_ix ixd (je_var 0) je_int))
  (jb_cons (js_if (jt_cmp opd_lt (je_var 2) je_int rfl) (jb_cons (js_expr (je_lm PySem.F.slot_list_pop PySem.F.type_list_pop mtd_pop (je_var 0) (ja_cons je_int ja_nil)))
  (jb_one (js_ret (je_op opd_mod (je_callTy cad_int rfl G.free_int bt_int (ja_cons (je_call d__law_mixed (hr.mono (by decide)) (L2N.takes_of rfl rfl rfl rfl) rfl (ja_cons (je_op opd_sub (je_un und_neg je_int) (je_var 2)) (ja_cons (je_ix ixd (je_var 0) je_int) ja_nil))) ja_nil)) (je_var 1))))) jb_nil)
  (jb_cons (js_store (je_var 0) je_int (je_op opd_div (je_var 2) (je_var 1)) (fun _ => rfl))
  (jb_cons (js_if (jt_cmp (opd_eq (huR hr)) (je_ix ixd (je_var 0) je_int) je_int rfl) (jb_one (js_expr (je_lm PySem.F.slot_list_pop PySem.F.type_list_pop mtd_pop (je_var 0) (ja_cons je_int ja_nil)))) jb_nil)
  (jb_one (js_ret (je_op opd_mod (je_callTy cad_int rfl G.free_int bt_int (ja_cons (je_var 2) ja_nil)) (je_var 1))))))))))
theorem d__law_take (G : Gs P K mg) (d__law_mixed : DefOk false P w K mg base ("_law_mixed" : Str) [] 1 g__law_mixed) (gm : mg ("_law_take" : Str) = some (.ref (He.fAd K (("_law_take" : Str), none)))) {fd : FuncData} (F : FunD K ("_law_take" : Str) ("_law_take" : Str) (defArgs st__law_take) (defBody st__law_take) (defScope st__law_take) [] [] (He.fAd K (("_law_take" : Str), none)) fd) : DefOk false P w K mg base ("_law_take" : Str) [] 2 g__law_take :=
  ⟨_, gm, F.kp, rn_pos (hot := false) (def_ok F sc__law_take fun cdv A outer s H E hr => jb__law_take G d__law_mixed hr) rfl (F.bindsN fun _ _ _ _ _ _ us hl => match us, hl with | [_, _], _ => rfl)⟩
theorem jb__law_large (G : Gs P K mg) (d__law_take : DefOk false P w K mg base ("_law_take" : Str) [] 2 g__law_take) {f : Addr} {cdv : Value} {A : Around} {outer : List PySem.Env} {s : Shared} {H : Hp} {E : XK} (hr : Room 2 (A.deeper (envOfC ("_law_large" : Str) (defScope st__law_large) s.heap.objs.size f cdv))) :
    JB (cxOf (L2N.CX P w) P w K mg base [("bag" : Str), ("grown" : Str), ("k" : Str)] ("_law_large" : Str) (defScope st__law_large) f cdv A outer s H E) (wcE E) (defBody st__law_large) m__law_large :=
  (jb_cons (js_set (i := 1) sc__law_large.nd rfl (Or.inl rfl) je_int)
  (jb_cons (js_forR1 (L2.passes_of rfl) rfl rfl G.free_range (ja_cons je_int ja_nil) (jg_name (i := 2) sc__law_large.nd rfl (Or.inl rfl)) (jb_one (js_set (i := 1) sc__law_large.nd rfl (Or.inl rfl) (je_op opd_add (je_op opd_mul (je_var 1) je_int) (je_call d__law_take (hr.mono (by decide)) (L2N.takes_of rfl rfl rfl rfl) rfl (ja_cons (je_var 0) (ja_cons je_int ja_nil)))))))
  (jb_one (js_ret (je_var 1)))))
theorem d__law_large (G : Gs P K mg) (d__law_take : DefOk false P w K mg base ("_law_take" : Str) [] 2 g__law_take) (gm : mg ("_law_large" : Str) = some (.ref (He.fAd K (("_law_large" : Str), none)))) {fd : FuncData} (F : FunD K ("_law_large" : Str) ("_law_large" : Str) (defArgs st__law_large) (defBody st__law_large) (defScope st__law_large) [] [] (He.fAd K (("_law_large" : Str), none)) fd) : DefOk false P w K mg base ("_law_large" : Str) [] 3 g__law_large :=
  ⟨_, gm, F.kp, rn_pos (hot := false) (def_ok F sc__law_large fun cdv A outer s H E hr => jb__law_large G d__law_take hr) rfl (F.bindsN fun _ _ _ _ _ _ us hl => match us, hl with | [_], _ => rfl)⟩
theorem jb__law_divisor (G : Gs P K mg)  {f : Addr} {cdv : Value} {A : Around} {outer : List PySem.Env} {s : Shared} {H : Hp} {E : XK} (hr : Room 0 (A.deeper (envOfC ("_law_divisor" : Str) (defScope st__law_divisor) s.heap.objs.size f cdv))) :
    JB (cxOf (L2N.CX P w) P w K mg base [("a" : Str), ("b" : Str), ("k" : Str)] ("_law_divisor" : Str) (defScope st__law_divisor) f cdv A outer s H E) (wcE E) (defBody st__law_divisor) m__law_divisor :=
  (jb_cons (js_forR1 (L2.passes_of rfl) rfl rfl G.free_range (ja_cons je_int ja_nil) (jg_name (i := 2) sc__law_divisor.nd rfl (Or.inl rfl)) (jb_cons (js_if (jt_cmp (opd_eq (huR hr)) (je_var 1) je_int rfl) (jb_one js_break) jb_nil)
  (jb_one (js_par (i := 0) (j := 1) rfl sc__law_divisor.nd rfl rfl (by decide) rfl rfl (ja_cons (je_var 1) (ja_cons (je_op opd_mod (je_callTy cad_int rfl G.free_int bt_int (ja_cons (je_var 0) ja_nil)) (je_var 1)) ja_nil)) rfl))))
  (jb_one (js_ret (je_var 0))))
theorem d__law_divisor (G : Gs P K mg)  (gm : mg ("_law_divisor" : Str) = some (.ref (He.fAd K (("_law_divisor" : Str), none)))) {fd : FuncData} (F : FunD K ("_law_divisor" : Str) ("_law_divisor" : Str) (defArgs st__law_divisor) (defBody st__law_divisor) (defScope st__law_divisor) [] [] (He.fAd K (("_law_divisor" : Str), none)) fd) : DefOk false P w K mg base ("_law_divisor" : Str) [] 1 g__law_divisor :=
  ⟨_, gm, F.kp, rn_pos (hot := false) (def_ok F sc__law_divisor fun cdv A outer s H E hr => jb__law_divisor G  hr) rfl (F.bindsN fun _ _ _ _ _ _ us hl => match us, hl with | [_, _], _ => rfl)⟩
theorem jb__law_lowest (G : Gs P K mg) (d__law_divisor : DefOk false P w K mg base ("_law_divisor" : Str) [] 1 g__law_divisor) {f : Addr} {cdv : Value} {A : Around} {outer : List PySem.Env} {s : Shared} {H : Hp} {E : XK} (hr : Room 1 (A.deeper (envOfC ("_law_lowest" : Str) (defScope st__law_lowest) s.heap.objs.size f cdv))) :
    JB (cxOf (L2N.CX P w) P w K mg base [("above" : Str), ("below" : Str), ("divisor" : Str)] ("_law_lowest" : Str) (defScope st__law_lowest) f cdv A outer s H E) (wcE E) (defBody st__law_lowest) m__law_lowest :=
  (jb_cons (js_set (i := 2) sc__law_lowest.nd rfl (Or.inl rfl) (je_call d__law_divisor (hr.mono (by decide)) (L2N.takes_of rfl rfl rfl rfl) rfl (ja_cons (je_callB cad_abs rfl G.free_abs bt_abs (ja_cons (je_var 0) ja_nil)) (ja_cons (je_var 1) ja_nil))))
  (jb_one (js_ret (je_tup (ja_cons (je_op opd_div (je_var 0) (je_var 2)) (ja_cons (je_op opd_div (je_var 1) (je_var 2)) ja_nil)) (flen_cons (flen_cons flen_nil))))))
theorem d__law_lowest (G : Gs P K mg) (d__law_divisor : DefOk false P w K mg base ("_law_divisor" : Str) [] 1 g__law_divisor) (gm : mg ("_law_lowest" : Str) = some (.ref (He.fAd K (("_law_lowest" : Str), none)))) {fd : FuncData} (F : FunD K ("_law_lowest" : Str) ("_law_lowest" : Str) (defArgs st__law_lowest) (defBody st__law_lowest) (defScope st__law_lowest) [] [] (He.fAd K (("_law_lowest" : Str), none)) fd) : DefOk false P w K mg base ("_law_lowest" : Str) [] 2 g__law_lowest :=
  ⟨_, gm, F.kp, rn_pos (hot := false) (def_ok F sc__law_lowest fun cdv A outer s H E hr => jb__law_lowest G d__law_divisor hr) rfl (F.bindsN fun _ _ _ _ _ _ us hl => match us, hl with | [_, _], _ => rfl)⟩
theorem jb__law_beside (G : Gs P K mg) (d__law_take : DefOk false P w K mg base ("_law_take" : Str) [] 2 g__law_take) (d__law_lowest : DefOk false P w K mg base ("_law_lowest" : Str) [] 2 g__law_lowest) {f : Addr} {cdv : Value} {A : Around} {outer : List PySem.Env} {s : Shared} {H : Hp} {E : XK} (hr : Room 2 (A.deeper (envOfC ("_law_beside" : Str) (defScope st__law_beside) s.heap.objs.size f cdv))) :
    JB (cxOf (L2N.CX P w) P w K mg base [("bag" : Str), ("before" : Str), ("way" : Str), ("side" : Str), ("mate" : Str), ("factor" : Str)] ("_law_beside" : Str) (defScope st__law_beside) f cdv A outer s H E) (wcE E) (defBody st__law_beside) m__law_beside :=
  (jb_cons (js_set (i := 4) sc__law_beside.nd rfl (Or.inl rfl) (je_tup (ja_cons je_int (ja_cons je_int ja_nil)) (flen_cons (flen_cons flen_nil))))
  (jb_cons (js_if (jt_cmp opd_gt (je_callB cad_len rfl G.free_len bt_len (ja_cons (je_var 1) ja_nil)) je_int rfl) (jb_one (js_set (i := 4) sc__law_beside.nd rfl (Or.inl rfl) (je_ix ixd (je_var 1) (je_call d__law_take (hr.mono (by decide)) (L2N.takes_of rfl rfl rfl rfl) rfl (ja_cons (je_var 0) (ja_cons (je_callB cad_len rfl G.free_len bt_len (ja_cons (je_var 1) ja_nil)) ja_nil)))))) jb_nil)
  (jb_cons (js_if (jt_cmp (opd_eq (huR hr)) (je_var 2) je_int rfl) (jb_one (js_ret (je_var 4))) jb_nil)
  (jb_cons (js_if (jt_cmp (opd_eq (huR hr)) (je_var 2) je_int rfl) (jb_one (js_ret (je_tup (ja_cons (je_un und_neg (je_ix ixd (je_var 4) je_int)) (ja_cons (je_ix ixd (je_var 4) je_int) ja_nil)) (flen_cons (flen_cons flen_nil))))) jb_nil)
  (jb_cons (js_if (PW.pt (jw_and (jt_cmp (opd_eq (huR hr)) (je_var 2) je_int rfl) (jw_and1 (jt_cmp opd_gt (je_ix ixd (je_var 4) je_int) je_int rfl)))) (jb_one (js_ret (je_tup (ja_cons (je_ix ixd (je_var 4) je_int) (ja_cons (je_ix ixd (je_var 4) je_int) ja_nil)) (flen_cons (flen_cons flen_nil))))) jb_nil)
  (jb_cons (js_if (PW.pt (jw_and (jt_cmp (opd_eq (huR hr)) (je_var 2) je_int rfl) (jw_and1 (jt_cmp opd_lt (je_ix ixd (je_var 4) je_int) je_int rfl)))) (jb_one (js_ret (je_tup (ja_cons (je_un und_neg (je_ix ixd (je_var 4) je_int)) (ja_cons (je_un und_neg (je_ix ixd (je_var 4) je_int)) ja_nil)) (flen_cons (flen_cons flen_nil))))) jb_nil)
  (jb_cons (js_if (PW.pt (jw_and (jt_cmp opd_lt (je_callB cad_abs rfl G.free_abs bt_abs (ja_cons (je_ix ixd (je_var 4) je_int) ja_nil)) (je_op opd_pow je_int je_int) rfl) (jw_and1 (jt_cmp opd_lt (je_ix ixd (je_var 4) je_int) (je_op opd_pow je_int je_int) rfl)))) (jb_cons (js_set (i := 5) sc__law_beside.nd rfl (Or.inl rfl) (je_op opd_add je_int (je_call d__law_take (hr.mono (by decide)) (L2N.takes_of rfl rfl rfl rfl) rfl (ja_cons (je_var 0) (ja_cons je_int ja_nil)))))
  (jb_one (js_ret (je_call d__law_lowest (hr.mono (by decide)) (L2N.takes_of rfl rfl rfl rfl) rfl (ja_cons (je_op opd_add (je_op opd_mul (je_ix ixd (je_var 4) je_int) (je_var 5)) (je_var 3)) (ja_cons (je_op opd_mul (je_ix ixd (je_var 4) je_int) (je_var 5)) ja_nil)))))) jb_nil)
  (jb_cons (js_if (jt_cmp opd_gt (je_ix ixd (je_var 4) je_int) je_int rfl) (jb_one (js_ret (je_call d__law_lowest (hr.mono (by decide)) (L2N.takes_of rfl rfl rfl rfl) rfl (ja_cons (je_op opd_sub (je_ix ixd (je_var 4) je_int) je_int) (ja_cons (je_ix ixd (je_var 4) je_int) ja_nil))))) jb_nil)
  (jb_one (js_ret (je_call d__law_lowest (hr.mono (by decide)) (L2N.takes_of rfl rfl rfl rfl) rfl (ja_cons (je_op opd_add (je_ix ixd (je_var 4) je_int) je_int) (ja_cons (je_ix ixd (je_var 4) je_int) ja_nil)))))))))))))
theorem d__law_beside (G : Gs P K mg) (d__law_take : DefOk false P w K mg base ("_law_take" : Str) [] 2 g__law_take) (d__law_lowest : DefOk false P w K mg base ("_law_lowest" : Str) [] 2 g__law_lowest) (gm : mg ("_law_beside" : Str) = some (.ref (He.fAd K (("_law_beside" : Str), none)))) {fd : FuncData} (F : FunD K ("_law_beside" : Str) ("_law_beside" : Str) (defArgs st__law_beside) (defBody st__law_beside) (defScope st__law_beside) [] [] (He.fAd K (("_law_beside" : Str), none)) fd) : DefOk false P w K mg base ("_law_beside" : Str) [] 3 g__law_beside :=
  ⟨_, gm, F.kp, rn_pos (hot := false) (def_ok F sc__law_beside fun cdv A outer s H E hr => jb__law_beside G d__law_take d__law_lowest hr) rfl (F.bindsN fun _ _ _ _ _ _ us hl => match us, hl with | [_, _, _, _], _ => rfl)⟩
theorem jb__law_number (G : Gs P K mg) (d__law_take : DefOk false P w K mg base ("_law_take" : Str) [] 2 g__law_take) (d__law_large : DefOk false P w K mg base ("_law_large" : Str) [] 3 g__law_large) (d__law_lowest : DefOk false P w K mg base ("_law_lowest" : Str) [] 2 g__law_lowest) (d__law_beside : DefOk false P w K mg base ("_law_beside" : Str) [] 3 g__law_beside) {f : Addr} {cdv : Value} {A : Around} {outer : List PySem.Env} {s : Shared} {H : Hp} {E : XK} (hr : Room 3 (A.deeper (envOfC ("_law_number" : Str) (defScope st__law_number) s.heap.objs.size f cdv))) :
    JB (cxOf (L2N.CX P w) P w K mg base [("bag" : Str), ("before" : Str), ("way" : Str), ("side" : Str), ("above" : Str)] ("_law_number" : Str) (defScope st__law_number) f cdv A outer s H E) (wcE E) (defBody st__law_number) m__law_number :=
  (jb_cons (js_set (i := 2) sc__law_number.nd rfl (Or.inl rfl) (je_call d__law_take (hr.mono (by decide)) (L2N.takes_of rfl rfl rfl rfl) rfl (ja_cons (je_var 0) (ja_cons je_int ja_nil))))
  (jb_cons (js_set (i := 3) sc__law_number.nd rfl (Or.inl rfl) (je_op opd_sub je_int (je_op opd_mul je_int (je_call d__law_take (hr.mono (by decide)) (L2N.takes_of rfl rfl rfl rfl) rfl (ja_cons (je_var 0) (ja_cons je_int ja_nil))))))
  (jb_cons (js_if (jt_cmp (opd_eq (huR hr)) (je_var 2) je_int rfl) (jb_one (js_ret (je_tup (ja_cons je_int (ja_cons je_int ja_nil)) (flen_cons (flen_cons flen_nil))))) jb_nil)
  (jb_cons (js_if (jt_cmp (opd_eq (huR hr)) (je_var 2) je_int rfl) (jb_one (js_ret (je_tup (ja_cons (je_op opd_mul (je_var 3) (je_call d__law_take (hr.mono (by decide)) (L2N.takes_of rfl rfl rfl rfl) rfl (ja_cons (je_var 0) (ja_cons je_int ja_nil)))) (ja_cons je_int ja_nil)) (flen_cons (flen_cons flen_nil))))) jb_nil)
  (jb_cons (js_if (jt_cmp opd_lt (je_var 2) je_int rfl) (jb_one (js_ret (je_call d__law_lowest (hr.mono (by decide)) (L2N.takes_of rfl rfl rfl rfl) rfl (ja_cons (je_op opd_mul (je_var 3) (je_call d__law_take (hr.mono (by decide)) (L2N.takes_of rfl rfl rfl rfl) rfl (ja_cons (je_var 0) (ja_cons je_int ja_nil)))) (ja_cons (je_op opd_add je_int (je_call d__law_take (hr.mono (by decide)) (L2N.takes_of rfl rfl rfl rfl) rfl (ja_cons (je_var 0) (ja_cons je_int ja_nil)))) ja_nil))))) jb_nil)
  (jb_cons (js_if (jt_cmp (opd_eq (huR hr)) (je_var 2) je_int rfl) (jb_one (js_ret (je_tup (ja_cons (je_op opd_mul (je_var 3) (je_call d__law_large (hr.mono (by decide)) (L2N.takes_of rfl rfl rfl rfl) rfl (ja_cons (je_var 0) ja_nil))) (ja_cons je_int ja_nil)) (flen_cons (flen_cons flen_nil))))) jb_nil)
  (jb_cons (js_if (jt_cmp (opd_eq (huR hr)) (je_var 2) je_int rfl) (jb_cons (js_set (i := 4) sc__law_number.nd rfl (Or.inl rfl) (je_op opd_mul (je_var 3) (je_call d__law_large (hr.mono (by decide)) (L2N.takes_of rfl rfl rfl rfl) rfl (ja_cons (je_var 0) ja_nil))))
  (jb_one (js_ret (je_call d__law_lowest (hr.mono (by decide)) (L2N.takes_of rfl rfl rfl rfl) rfl (ja_cons (je_var 4) (ja_cons (je_op opd_add je_int (je_op opd_mod (je_callTy cad_int rfl G.free_int bt_int (ja_cons (je_call d__law_large (hr.mono (by decide)) (L2N.takes_of rfl rfl rfl rfl) rfl (ja_cons (je_var 0) ja_nil)) ja_nil)) (je_op opd_sub (je_op opd_pow je_int je_int) je_int))) ja_nil)))))) jb_nil)
  (jb_cons (js_if (jt_cmp (opd_eq (huR hr)) (je_var 2) je_int rfl) (jb_cons (js_set (i := 4) sc__law_number.nd rfl (Or.inl rfl) (je_op opd_mul (je_var 3) (je_op opd_sub (je_op opd_sub (je_op opd_pow je_int je_int) je_int) (je_call d__law_take (hr.mono (by decide)) (L2N.takes_of rfl rfl rfl rfl) rfl (ja_cons (je_var 0) (ja_cons je_int ja_nil))))))
  (jb_one (js_ret (je_call d__law_lowest (hr.mono (by decide)) (L2N.takes_of rfl rfl rfl rfl) rfl (ja_cons (je_var 4) (ja_cons (je_op opd_sub (je_op opd_sub (je_op opd_pow je_int je_int) je_int) (je_call d__law_take (hr.mono (by decide)) (L2N.takes_of rfl rfl rfl rfl) rfl (ja_cons (je_var 0) (ja_cons je_int ja_nil)))) ja_nil)))))) jb_nil)
  (jb_one (js_ret (je_call d__law_beside (hr.mono (by decide)) (L2N.takes_of rfl rfl rfl rfl) rfl (ja_cons (je_var 0) (ja_cons (je_var 1) (ja_cons (je_var 2) (ja_cons (je_var 3) ja_nil)))))))))))))))
theorem d__law_number (G : Gs P K mg) (d__law_take : DefOk false P w K mg base ("_law_take" : Str) [] 2 g__law_take) (d__law_large : DefOk false P w K mg base ("_law_large" : Str) [] 3 g__law_large) (d__law_lowest : DefOk false P w K mg base ("_law_lowest" : Str) [] 2 g__law_lowest) (d__law_beside : DefOk false P w K mg base ("_law_beside" : Str) [] 3 g__law_beside) (gm : mg ("_law_number" : Str) = some (.ref (He.fAd K (("_law_number" : Str), none)))) {fd : FuncData} (F : FunD K ("_law_number" : Str) ("_law_number" : Str) (defArgs st__law_number) (defBody st__law_number) (defScope st__law_number) [] [] (He.fAd K (("_law_number" : Str), none)) fd) : DefOk false P w K mg base ("_law_number" : Str) [] 4 g__law_number :=
  ⟨_, gm, F.kp, rn_pos (hot := false) (def_ok F sc__law_number fun cdv A outer s H E hr => jb__law_number G d__law_take d__law_large d__law_lowest d__law_beside hr) rfl (F.bindsN fun _ _ _ _ _ _ us hl => match us, hl with | [_, _], _ => rfl)⟩
theorem jb__law_numbers (G : Gs P K mg) (d__law_number : DefOk false P w K mg base ("_law_number" : Str) [] 4 g__law_number) {f : Addr} {cdv : Value} {A : Around} {outer : List PySem.Env} {s : Shared} {H : Hp} {E : XK} (hr : Room 4 (A.deeper (envOfC ("_law_numbers" : Str) (defScope st__law_numbers) s.heap.objs.size f cdv))) :
    JB (cxOf (L2N.CX P w) P w K mg base [("bag" : Str), ("many" : Str), ("row" : Str), ("k" : Str)] ("_law_numbers" : Str) (defScope st__law_numbers) f cdv A outer s H E) (wcE E) (defBody st__law_numbers) m__law_numbers :=
  (jb_cons (js_set (i := 2) sc__law_numbers.nd rfl (Or.inl rfl) (je_lst ja_nil flen_nil))
  (jb_cons (js_forR1 (L2.passes_of rfl) rfl rfl G.free_range (ja_cons (je_var 1) ja_nil) (jg_name (i := 3) sc__law_numbers.nd rfl (Or.inl rfl)) (jb_one (js_expr (je_lm PySem.F.slot_list_append PySem.F.type_list_append mtd_append (je_var 2) (ja_cons (je_call d__law_number (hr.mono (by decide)) (L2N.takes_of rfl rfl rfl rfl) rfl (ja_cons (je_var 0) (ja_cons (je_var 2) ja_nil))) ja_nil)))))
  (jb_one (js_ret (je_var 2)))))
theorem d__law_numbers (G : Gs P K mg) (d__law_number : DefOk false P w K mg base ("_law_number" : Str) [] 4 g__law_number) (gm : mg ("_law_numbers" : Str) = some (.ref (He.fAd K (("_law_numbers" : Str), none)))) {fd : FuncData} (F : FunD K ("_law_numbers" : Str) ("_law_numbers" : Str) (defArgs st__law_numbers) (defBody st__law_numbers) (defScope st__law_numbers) [] [] (He.fAd K (("_law_numbers" : Str), none)) fd) : DefOk false P w K mg base ("_law_numbers" : Str) [] 5 g__law_numbers :=
  ⟨_, gm, F.kp, rn_pos (hot := false) (def_ok F sc__law_numbers fun cdv A outer s H E hr => jb__law_numbers G d__law_number hr) rfl (F.bindsN fun _ _ _ _ _ _ us hl => match us, hl with | [_, _], _ => rfl)⟩
theorem jb__law_pick (G : Gs P K mg) (d__law_take : DefOk false P w K mg base ("_law_take" : Str) [] 2 g__law_take) {f : Addr} {cdv : Value} {A : Around} {outer : List PySem.Env} {s : Shared} {H : Hp} {E : XK} (hr : Room 2 (A.deeper (envOfC ("_law_pick" : Str) (defScope st__law_pick) s.heap.objs.size f cdv))) :
    JB (cxOf (L2N.CX P w) P w K mg base [("bag" : Str), ("pool" : Str)] ("_law_pick" : Str) (defScope st__law_pick) f cdv A outer s H E) (wcE E) (defBody st__law_pick) m__law_pick :=
  (jb_one (js_ret (je_ix ixd (je_var 1) (je_call d__law_take (hr.mono (by decide)) (L2N.takes_of rfl rfl rfl rfl) rfl (ja_cons (je_var 0) (ja_cons (je_callB cad_len rfl G.free_len bt_len (ja_cons (je_var 1) ja_nil)) ja_nil))))))
theorem d__law_pick (G : Gs P K mg) (d__law_take : DefOk false P w K mg base ("_law_take" : Str) [] 2 g__law_take) (gm : mg ("_law_pick" : Str) = some (.ref (He.fAd K (("_law_pick" : Str), none)))) {fd : FuncData} (F : FunD K ("_law_pick" : Str) ("_law_pick" : Str) (defArgs st__law_pick) (defBody st__law_pick) (defScope st__law_pick) [] [] (He.fAd K (("_law_pick" : Str), none)) fd) : DefOk false P w K mg base ("_law_pick" : Str) [] 3 g__law_pick :=
  ⟨_, gm, F.kp, rn_pos (hot := false) (def_ok F sc__law_pick fun cdv A outer s H E hr => jb__law_pick G d__law_take hr) rfl (F.bindsN fun _ _ _ _ _ _ us hl => match us, hl with | [_, _], _ => rfl)⟩
theorem jb__law_form (G : Gs P K mg) (d__law_take : DefOk false P w K mg base ("_law_take" : Str) [] 2 g__law_take) (d__law_pick : DefOk false P w K mg base ("_law_pick" : Str) [] 3 g__law_pick) {f : Addr} {cdv : Value} {A : Around} {outer : List PySem.Env} {s : Shared} {H : Hp} {E : XK} (hr : Room 3 (A.deeper (envOfC ("_law_form" : Str) (defScope st__law_form) s.heap.objs.size f cdv))) :
    JB (cxOf (L2N.CX P w) P w K mg base [("bag" : Str), ("pool" : Str), ("wide" : Str), ("way" : Str), ("row" : Str), ("k" : Str)] ("_law_form" : Str) (defScope st__law_form) f cdv A outer s H E) (wcE E) (defBody st__law_form) m__law_form :=
  (jb_cons (js_set (i := 3) sc__law_form.nd rfl (Or.inl rfl) (je_call d__law_take (hr.mono (by decide)) (L2N.takes_of rfl rfl rfl rfl) rfl (ja_cons (je_var 0) (ja_cons je_int ja_nil))))
  (jb_cons (js_set (i := 4) sc__law_form.nd rfl (Or.inl rfl) (je_lst (ja_cons (je_call d__law_pick (hr.mono (by decide)) (L2N.takes_of rfl rfl rfl rfl) rfl (ja_cons (je_var 0) (ja_cons (je_var 1) ja_nil))) ja_nil) (flen_cons flen_nil)))
  (jb_cons (js_forR1 (L2.passes_of rfl) rfl rfl G.free_range (ja_cons (je_var 2) ja_nil) (jg_name (i := 5) sc__law_form.nd rfl (Or.inl rfl)) (jb_one (js_if (PW.pt (jw_or (jt_cmp (opd_eq (huR hr)) (je_var 3) je_int rfl) (jw_or1 (PW.pt (jw_and (jt_cmp (opd_eq (huR hr)) (je_var 3) je_int rfl) (jw_and1 (jt_cmp (opd_eq (huR hr)) (je_call d__law_take (hr.mono (by decide)) (L2N.takes_of rfl rfl rfl rfl) rfl (ja_cons (je_var 0) (ja_cons je_int ja_nil))) je_int rfl))))))) (jb_one (js_expr (je_lm PySem.F.slot_list_append PySem.F.type_list_append mtd_append (je_var 4) (ja_cons (je_tup (ja_cons je_int (ja_cons je_int ja_nil)) (flen_cons (flen_cons flen_nil))) ja_nil)))) (jb_one (js_expr (je_lm PySem.F.slot_list_append PySem.F.type_list_append mtd_append (je_var 4) (ja_cons (je_call d__law_pick (hr.mono (by decide)) (L2N.takes_of rfl rfl rfl rfl) rfl (ja_cons (je_var 0) (ja_cons (je_var 1) ja_nil))) ja_nil)))))))
  (jb_one (js_ret (je_callTy cad_tuple rfl G.free_tuple bt_tuple (ja_cons (je_var 4) ja_nil)))))))
theorem d__law_form (G : Gs P K mg) (d__law_take : DefOk false P w K mg base ("_law_take" : Str) [] 2 g__law_take) (d__law_pick : DefOk false P w K mg base ("_law_pick" : Str) [] 3 g__law_pick) (gm : mg ("_law_form" : Str) = some (.ref (He.fAd K (("_law_form" : Str), none)))) {fd : FuncData} (F : FunD K ("_law_form" : Str) ("_law_form" : Str) (defArgs st__law_form) (defBody st__law_form) (defScope st__law_form) [] [] (He.fAd K (("_law_form" : Str), none)) fd) : DefOk false P w K mg base ("_law_form" : Str) [] 4 g__law_form :=
  ⟨_, gm, F.kp, rn_pos (hot := false) (def_ok F sc__law_form fun cdv A outer s H E hr => jb__law_form G d__law_take d__law_pick hr) rfl (F.bindsN fun _ _ _ _ _ _ us hl => match us, hl with | [_, _, _], _ => rfl)⟩
theorem jb_ratio (G : Gs P K mg)  {f : Addr} {cdv : Value} {A : Around} {outer : List PySem.Env} {s : Shared} {H : Hp} {E : XK} (hr : Room 0 (A.deeper (envOfC ("ratio" : Str) (defScope st_ratio) s.heap.objs.size f cdv))) :
    JB (cxOf (L2N.CX P w) P w K mg base [("top" : Str), ("bottom" : Str), ("divisor" : Str)] ("ratio" : Str) (defScope st_ratio) f cdv A outer s H E) (wcE E) (defBody st_ratio) m_ratio :=
  (jb_cons (js_if (jt_cmp (opd_eq (huR hr)) (je_var 1) je_int rfl) (jb_one (js_raise rfl G.exc_BadNumber fn_BadNumber hr (L2N.takes_of rfl rfl rfl rfl) (ja_cons (je_var 1) ja_nil) rfl)) jb_nil)
  (jb_cons (js_if (jt_cmp opd_lt (je_var 1) je_int rfl) (jb_one (js_par (i := 0) (j := 1) rfl sc_ratio.nd rfl rfl (by decide) rfl rfl (ja_cons (je_un und_neg (je_var 0)) (ja_cons (je_un und_neg (je_var 1)) ja_nil)) rfl)) jb_nil)
  (jb_cons (js_set (i := 2) sc_ratio.nd rfl (Or.inl rfl) (je_callBfun cad_gcd rfl G.blt_gcd (ja_cons (je_var 0) (ja_cons (je_var 1) ja_nil))))
  (jb_one (js_ret (je_tup (ja_cons (je_op opd_div (je_var 0) (je_var 2)) (ja_cons (je_op opd_div (je_var 1) (je_var 2)) ja_nil)) (flen_cons (flen_cons flen_nil))))))))
theorem d_ratio (G : Gs P K mg)  (gm : mg ("ratio" : Str) = some (.ref (He.fAd K (("ratio" : Str), none)))) {fd : FuncData} (F : FunD K ("ratio" : Str) ("ratio" : Str) (defArgs st_ratio) (defBody st_ratio) (defScope st_ratio) [.int 1] [] (He.fAd K (("ratio" : Str), none)) fd) : DefOk false P w K mg base ("ratio" : Str) [] 1 g_ratio :=
  ⟨_, gm, F.kp, rn_dfl (hot := false) (def_ok F sc_ratio fun cdv A outer s H E hr => jb_ratio G  hr) rfl (by decide) (fun _ _ _ => ⟨_, _, rfl, rfl, rfl⟩) (fun j hj => match j, hj with
    | 0, _ => F.binds1 1 0 (by simp) rfl (fun _ _ _ _ _ _ _ us its hl hi => match us, its, hl, hi with | [_], [_], _, _ => ⟨_, rfl, rfl⟩)
    | 1, _ => F.binds1 2 1 (by simp) rfl (fun _ _ _ _ _ _ _ us its hl hi => match us, its, hl, hi with | [_, _], [_], _, _ => ⟨_, rfl, rfl⟩)
    | j + 2, h => absurd h (by simp))⟩
theorem jb_plus (G : Gs P K mg) (d_ratio : DefOk false P w K mg base ("ratio" : Str) [] 1 g_ratio) {f : Addr} {cdv : Value} {A : Around} {outer : List PySem.Env} {s : Shared} {H : Hp} {E : XK} (hr : Room 1 (A.deeper (envOfC ("plus" : Str) (defScope st_plus) s.heap.objs.size f cdv))) :
    JB (cxOf (L2N.CX P w) P w K mg base [("a" : Str), ("b" : Str)] ("plus" : Str) (defScope st_plus) f cdv A outer s H E) (wcE E) (defBody st_plus) m_plus :=
  (jb_one (js_ret (je_call d_ratio (hr.mono (by decide)) (L2N.takes_of rfl rfl rfl rfl) rfl (ja_cons (je_op opd_add (je_op opd_mul (je_ix ixd (je_var 0) je_int) (je_ix ixd (je_var 1) je_int)) (je_op opd_mul (je_ix ixd (je_var 1) je_int) (je_ix ixd (je_var 0) je_int))) (ja_cons (je_op opd_mul (je_ix ixd (je_var 0) je_int) (je_ix ixd (je_var 1) je_int)) ja_nil)))))
theorem d_plus (G : Gs P K mg) (d_ratio : DefOk false P w K mg base ("ratio" : Str) [] 1 g_ratio) (gm : mg ("plus" : Str) = some (.ref (He.fAd K (("plus" : Str), none)))) {fd : FuncData} (F : FunD K ("plus" : Str) ("plus" : Str) (defArgs st_plus) (defBody st_plus) (defScope st_plus) [] [] (He.fAd K (("plus" : Str), none)) fd) : DefOk false P w K mg base ("plus" : Str) [] 2 g_plus :=
  ⟨_, gm, F.kp, rn_pos (hot := false) (def_ok F sc_plus fun cdv A outer s H E hr => jb_plus G d_ratio hr) rfl (F.bindsN fun _ _ _ _ _ _ us hl => match us, hl with | [_, _], _ => rfl)⟩
theorem jb_form_plus (G : Gs P K mg) (d_plus : DefOk false P w K mg base ("plus" : Str) [] 2 g_plus) {f : Addr} {cdv : Value} {A : Around} {outer : List PySem.Env} {s : Shared} {H : Hp} {E : XK} (hr : Room 2 (A.deeper (envOfC ("form_plus" : Str) (defScope st_form_plus) s.heap.objs.size f cdv))) :
    JB (cxOf (L2N.CX P w) P w K mg base [("a" : Str), ("b" : Str), ("one" : Str), ("other" : Str)] ("form_plus" : Str) (defScope st_form_plus) f cdv A outer s H E) (wcE E) (defBody st_form_plus) m_form_plus :=
  (jb_one (js_ret (je_callTy cad_tuple rfl G.free_tuple bt_tuple (ja_cons (je_lc [(("one" : Str), 2), (("other" : Str), 3)] rfl rfl sc_form_plus.nd (ji_zip rfl G.free_zip (ja_cons (je_var 0) (ja_cons (je_var 1) ja_nil))) (blkOk_by (N := [("a" : Str), ("b" : Str), ("one" : Str), ("other" : Str)]) (sc := defScope st_form_plus) (own := [(("one" : Str), 2), (("other" : Str), 3)]) (by decide +kernel)) (fun _ _ _ _ _ => (jgw_tup rfl (jgws_cons (jgw_name (i := 2) sc_form_plus.nd rfl (by decide)) (jgws_cons (jgw_name (i := 3) sc_form_plus.nd rfl (by decide)) jgws_nil)))) (fun _ _ _ _ _ => jts_nil) (fun _ _ _ _ _ => (je_call d_plus (hr.mono (by decide)) takes_no rfl (ja_cons (je_var 2) (ja_cons (je_var 3) ja_nil))))) ja_nil))))
theorem d_form_plus (G : Gs P K mg) (d_plus : DefOk false P w K mg base ("plus" : Str) [] 2 g_plus) (gm : mg ("form_plus" : Str) = some (.ref (He.fAd K (("form_plus" : Str), none)))) {fd : FuncData} (F : FunD K ("form_plus" : Str) ("form_plus" : Str) (defArgs st_form_plus) (defBody st_form_plus) (defScope st_form_plus) [] [] (He.fAd K (("form_plus" : Str), none)) fd) : DefOk false P w K mg base ("form_plus" : Str) [] 3 g_form_plus :=
  ⟨_, gm, F.kp, rn_pos (hot := false) (def_ok F sc_form_plus fun cdv A outer s H E hr => jb_form_plus G d_plus hr) rfl (F.bindsN fun _ _ _ _ _ _ us hl => match us, hl with | [_, _], _ => rfl)⟩
theorem jb_minus (G : Gs P K mg) (d_ratio : DefOk false P w K mg base ("ratio" : Str) [] 1 g_ratio) {f : Addr} {cdv : Value} {A : Around} {outer : List PySem.Env} {s : Shared} {H : Hp} {E : XK} (hr : Room 1 (A.deeper (envOfC ("minus" : Str) (defScope st_minus) s.heap.objs.size f cdv))) :
    JB (cxOf (L2N.CX P w) P w K mg base [("a" : Str), ("b" : Str)] ("minus" : Str) (defScope st_minus) f cdv A outer s H E) (wcE E) (defBody st_minus) m_minus :=
  (jb_one (js_ret (je_call d_ratio (hr.mono (by decide)) (L2N.takes_of rfl rfl rfl rfl) rfl (ja_cons (je_op opd_sub (je_op opd_mul (je_ix ixd (je_var 0) je_int) (je_ix ixd (je_var 1) je_int)) (je_op opd_mul (je_ix ixd (je_var 1) je_int) (je_ix ixd (je_var 0) je_int))) (ja_cons (je_op opd_mul (je_ix ixd (je_var 0) je_int) (je_ix ixd (je_var 1) je_int)) ja_nil)))))
theorem d_minus (G : Gs P K mg) (d_ratio : DefOk false P w K mg base ("ratio" : Str) [] 1 g_ratio) (gm : mg ("minus" : Str) = some (.ref (He.fAd K (("minus" : Str), none)))) {fd : FuncData} (F : FunD K ("minus" : Str) ("minus" : Str) (defArgs st_minus) (defBody st_minus) (defScope st_minus) [] [] (He.fAd K (("minus" : Str), none)) fd) : DefOk false P w K mg base ("minus" : Str) [] 2 g_minus :=
  ⟨_, gm, F.kp, rn_pos (hot := false) (def_ok F sc_minus fun cdv A outer s H E hr => jb_minus G d_ratio hr) rfl (F.bindsN fun _ _ _ _ _ _ us hl => match us, hl with | [_, _], _ => rfl)⟩
theorem jb_form_minus (G : Gs P K mg) (d_minus : DefOk false P w K mg base ("minus" : Str) [] 2 g_minus) {f : Addr} {cdv : Value} {A : Around} {outer : List PySem.Env} {s : Shared} {H : Hp} {E : XK} (hr : Room 2 (A.deeper (envOfC ("form_minus" : Str) (defScope st_form_minus) s.heap.objs.size f cdv))) :
    JB (cxOf (L2N.CX P w) P w K mg base [("a" : Str), ("b" : Str), ("one" : Str), ("other" : Str)] ("form_minus" : Str) (defScope st_form_minus) f cdv A outer s H E) (wcE E) (defBody st_form_minus) m_form_minus :=
  (jb_one (js_ret (je_callTy cad_tuple rfl G.free_tuple bt_tuple (ja_cons (je_lc [(("one" : Str), 2), (("other" : Str), 3)] rfl rfl sc_form_minus.nd (ji_zip rfl G.free_zip (ja_cons (je_var 0) (ja_cons (je_var 1) ja_nil))) (blkOk_by (N := [("a" : Str), ("b" : Str), ("one" : Str), ("other" : Str)]) (sc := defScope st_form_minus) (own := [(("one" : Str), 2), (("other" : Str), 3)]) (by decide +kernel)) (fun _ _ _ _ _ => (jgw_tup rfl (jgws_cons (jgw_name (i := 2) sc_form_minus.nd rfl (by decide)) (jgws_cons (jgw_name (i := 3) sc_form_minus.nd rfl (by decide)) jgws_nil)))) (fun _ _ _ _ _ => jts_nil) (fun _ _ _ _ _ => (je_call d_minus (hr.mono (by decide)) takes_no rfl (ja_cons (je_var 2) (ja_cons (je_var 3) ja_nil))))) ja_nil))))
theorem d_form_minus (G : Gs P K mg) (d_minus : DefOk false P w K mg base ("minus" : Str) [] 2 g_minus) (gm : mg ("form_minus" : Str) = some (.ref (He.fAd K (("form_minus" : Str), none)))) {fd : FuncData} (F : FunD K ("form_minus" : Str) ("form_minus" : Str) (defArgs st_form_minus) (defBody st_form_minus) (defScope st_form_minus) [] [] (He.fAd K (("form_minus" : Str), none)) fd) : DefOk false P w K mg base ("form_minus" : Str) [] 3 g_form_minus :=
  ⟨_, gm, F.kp, rn_pos (hot := false) (def_ok F sc_form_minus fun cdv A outer s H E hr => jb_form_minus G d_minus hr) rfl (F.bindsN fun _ _ _ _ _ _ us hl => match us, hl with | [_, _], _ => rfl)⟩
theorem jb_times (G : Gs P K mg) (d_ratio : DefOk false P w K mg base ("ratio" : Str) [] 1 g_ratio) {f : Addr} {cdv : Value} {A : Around} {outer : List PySem.Env} {s : Shared} {H : Hp} {E : XK} (hr : Room 1 (A.deeper (envOfC ("times" : Str) (defScope st_times) s.heap.objs.size f cdv))) :
    JB (cxOf (L2N.CX P w) P w K mg base [("a" : Str), ("b" : Str)] ("times" : Str) (defScope st_times) f cdv A outer s H E) (wcE E) (defBody st_times) m_times :=
  (jb_one (js_ret (je_call d_ratio (hr.mono (by decide)) (L2N.takes_of rfl rfl rfl rfl) rfl (ja_cons (je_op opd_mul (je_ix ixd (je_var 0) je_int) (je_ix ixd (je_var 1) je_int)) (ja_cons (je_op opd_mul (je_ix ixd (je_var 0) je_int) (je_ix ixd (je_var 1) je_int)) ja_nil)))))
theorem d_times (G : Gs P K mg) (d_ratio : DefOk false P w K mg base ("ratio" : Str) [] 1 g_ratio) (gm : mg ("times" : Str) = some (.ref (He.fAd K (("times" : Str), none)))) {fd : FuncData} (F : FunD K ("times" : Str) ("times" : Str) (defArgs st_times) (defBody st_times) (defScope st_times) [] [] (He.fAd K (("times" : Str), none)) fd) : DefOk false P w K mg base ("times" : Str) [] 2 g_times :=
  ⟨_, gm, F.kp, rn_pos (hot := false) (def_ok F sc_times fun cdv A outer s H E hr => jb_times G d_ratio hr) rfl (F.bindsN fun _ _ _ _ _ _ us hl => match us, hl with | [_, _], _ => rfl)⟩
theorem jb_form_times (G : Gs P K mg) (d_times : DefOk false P w K mg base ("times" : Str) [] 2 g_times) {f : Addr} {cdv : Value} {A : Around} {outer : List PySem.Env} {s : Shared} {H : Hp} {E : XK} (hr : Room 2 (A.deeper (envOfC ("form_times" : Str) (defScope st_form_times) s.heap.objs.size f cdv))) :
    JB (cxOf (L2N.CX P w) P w K mg base [("form" : Str), ("number" : Str), ("coefficient" : Str)] ("form_times" : Str) (defScope st_form_times) f cdv A outer s H E) (wcE E) (defBody st_form_times) m_form_times :=
  (jb_one (js_ret (je_callTy cad_tuple rfl G.free_tuple bt_tuple (ja_cons (je_lc [(("coefficient" : Str), 2)] rfl rfl sc_form_times.nd (ji_seq (je_var 0)) (blkOk_by (N := [("form" : Str), ("number" : Str), ("coefficient" : Str)]) (sc := defScope st_form_times) (own := [(("coefficient" : Str), 2)]) (by decide +kernel)) (fun _ _ _ _ _ => (jgw_name (i := 2) sc_form_times.nd rfl (by decide))) (fun _ _ _ _ _ => jts_nil) (fun _ _ _ _ _ => (je_call d_times (hr.mono (by decide)) takes_no rfl (ja_cons (je_var 2) (ja_cons (je_var 1) ja_nil))))) ja_nil))))
theorem d_form_times (G : Gs P K mg) (d_times : DefOk false P w K mg base ("times" : Str) [] 2 g_times) (gm : mg ("form_times" : Str) = some (.ref (He.fAd K (("form_times" : Str), none)))) {fd : FuncData} (F : FunD K ("form_times" : Str) ("form_times" : Str) (defArgs st_form_times) (defBody st_form_times) (defScope st_form_times) [] [] (He.fAd K (("form_times" : Str), none)) fd) : DefOk false P w K mg base ("form_times" : Str) [] 3 g_form_times :=
  ⟨_, gm, F.kp, rn_pos (hot := false) (def_ok F sc_form_times fun cdv A outer s H E hr => jb_form_times G d_times hr) rfl (F.bindsN fun _ _ _ _ _ _ us hl => match us, hl with | [_, _], _ => rfl)⟩
theorem jb_value_at (G : Gs P K mg) (d_plus : DefOk false P w K mg base ("plus" : Str) [] 2 g_plus) (d_times : DefOk false P w K mg base ("times" : Str) [] 2 g_times) {f : Addr} {cdv : Value} {A : Around} {outer : List PySem.Env} {s : Shared} {H : Hp} {E : XK} (hr : Room 2 (A.deeper (envOfC ("value_at" : Str) (defScope st_value_at) s.heap.objs.size f cdv))) :
    JB (cxOf (L2N.CX P w) P w K mg base [("form" : Str), ("point" : Str), ("value" : Str), ("coefficient" : Str), ("number" : Str)] ("value_at" : Str) (defScope st_value_at) f cdv A outer s H E) (wcE E) (defBody st_value_at) m_value_at :=
  (jb_cons (js_if (jt_cmp (opd_ne (huR hr)) (je_callB cad_len rfl G.free_len bt_len (ja_cons (je_var 1) ja_nil)) (je_op opd_sub (je_callB cad_len rfl G.free_len bt_len (ja_cons (je_var 0) ja_nil)) je_int) rfl) (jb_one (js_raise rfl G.exc_BadForm fn_BadForm hr (L2N.takes_of rfl rfl rfl rfl) (ja_cons (je_var 0) ja_nil) rfl)) jb_nil)
  (jb_cons (js_set (i := 2) sc_value_at.nd rfl (Or.inl rfl) (je_ix ixd (je_var 0) je_int))
  (jb_cons (js_forI (L2.passes_of rfl) rfl (ji_zip rfl G.free_zip (ja_cons (je_sl sld (je_var 0) (jo_part je_int) jo_no) (ja_cons (je_var 1) ja_nil))) (jg_tup rfl (jgs_cons (jg_name (i := 3) sc_value_at.nd rfl (Or.inl rfl)) (jgs_cons (jg_name (i := 4) sc_value_at.nd rfl (Or.inl rfl)) jgs_nil))) (jb_one (js_set (i := 2) sc_value_at.nd rfl (Or.inl rfl) (je_call d_plus (hr.mono (by decide)) (L2N.takes_of rfl rfl rfl rfl) rfl (ja_cons (je_var 2) (ja_cons (je_call d_times (hr.mono (by decide)) (L2N.takes_of rfl rfl rfl rfl) rfl (ja_cons (je_var 3) (ja_cons (je_var 4) ja_nil))) ja_nil))))))
  (jb_one (js_ret (je_var 2))))))
theorem d_value_at (G : Gs P K mg) (d_plus : DefOk false P w K mg base ("plus" : Str) [] 2 g_plus) (d_times : DefOk false P w K mg base ("times" : Str) [] 2 g_times) (gm : mg ("value_at" : Str) = some (.ref (He.fAd K (("value_at" : Str), none)))) {fd : FuncData} (F : FunD K ("value_at" : Str) ("value_at" : Str) (defArgs st_value_at) (defBody st_value_at) (defScope st_value_at) [] [] (He.fAd K (("value_at" : Str), none)) fd) : DefOk false P w K mg base ("value_at" : Str) [] 3 g_value_at :=
  ⟨_, gm, F.kp, rn_pos (hot := false) (def_ok F sc_value_at fun cdv A outer s H E hr => jb_value_at G d_plus d_times hr) rfl (F.bindsN fun _ _ _ _ _ _ us hl => match us, hl with | [_, _], _ => rfl)⟩
theorem jb__law_integer (G : Gs P K mg)  {f : Addr} {cdv : Value} {A : Around} {outer : List PySem.Env} {s : Shared} {H : Hp} {E : XK} (hr : Room 0 (A.deeper (envOfC ("_law_integer" : Str) (defScope st__law_integer) s.heap.objs.size f cdv))) :
    JB (cxOf (L2N.CX P w) P w K mg base [("thing" : Str)] ("_law_integer" : Str) (defScope st__law_integer) f cdv A outer s H E) (wcE E) (defBody st__law_integer) m__law_integer :=
  (jb_one (js_ret (je_and (je_isi rfl G.free_isinstance rfl G.free_int bt_int (by decide) (je_var 0)) (je_one (je_not (je_isi rfl G.free_isinstance rfl G.free_bool bt_bool (by decide) (je_var 0)))))))
theorem jbh__law_integer (G : Gs P K mg)  {f : Addr} {cdv : Value} {A : Around} {outer : List PySem.Env} {s : Shared} {H : Hp} {E : XK} {pp : Addr × Obj} (hhot : L2H.Hot1 A pp) (hr : L2H.RoomH 0 (A.deeper (envOfC ("_law_integer" : Str) (defScope st__law_integer) s.heap.objs.size f cdv))) :
    JB (L2H.cxH (L2N.CX P w) P w K mg base [("thing" : Str)] ("_law_integer" : Str) (defScope st__law_integer) f cdv A outer s H E pp) (wcE E) (defBody st__law_integer) m__law_integer :=
  (jb_one (js_ret (je_and (je_isi rfl G.free_isinstance rfl G.free_int bt_int (by decide) (je_var 0)) (je_one (je_not (je_isi rfl G.free_isinstance rfl G.free_bool bt_bool (by decide) (je_var 0)))))))
theorem d__law_integer (G : Gs P K mg)  (gm : mg ("_law_integer" : Str) = some (.ref (He.fAd K (("_law_integer" : Str), none)))) {fd : FuncData} (F : FunD K ("_law_integer" : Str) ("_law_integer" : Str) (defArgs st__law_integer) (defBody st__law_integer) (defScope st__law_integer) [] [] (He.fAd K (("_law_integer" : Str), none)) fd) : DefOk false P w K mg base ("_law_integer" : Str) [] 1 g__law_integer :=
  ⟨_, gm, F.kp, rn_pos (hot := false) (def_ok F sc__law_integer fun cdv A outer s H E hr => jb__law_integer G  hr) rfl (F.bindsN fun _ _ _ _ _ _ us hl => match us, hl with | [_], _ => rfl)⟩
theorem dh__law_integer (G : Gs P K mg)  (gm : mg ("_law_integer" : Str) = some (.ref (He.fAd K (("_law_integer" : Str), none)))) {fd : FuncData} (F : FunD K ("_law_integer" : Str) ("_law_integer" : Str) (defArgs st__law_integer) (defBody st__law_integer) (defScope st__law_integer) [] [] (He.fAd K (("_law_integer" : Str), none)) fd) : DefOk true P w K mg base ("_law_integer" : Str) [] 1 g__law_integer :=
  ⟨_, gm, F.kp, rn_pos (hot := true) (def_okH F sc__law_integer fun cdv A outer s H E p hot hr => jbh__law_integer G  hot hr) rfl (F.bindsN fun _ _ _ _ _ _ us hl => match us, hl with | [_], _ => rfl)⟩
theorem jb__law_is (G : Gs P K mg) (d__law_integer : DefOk false P w K mg base ("_law_integer" : Str) [] 1 g__law_integer) {f : Addr} {cdv : Value} {A : Around} {outer : List PySem.Env} {s : Shared} {H : Hp} {E : XK} (hr : Room 1 (A.deeper (envOfC ("_law_is" : Str) (defScope st__law_is) s.heap.objs.size f cdv))) :
    JB (cxOf (L2N.CX P w) P w K mg base [("answer" : Str), ("due" : Str)] ("_law_is" : Str) (defScope st__law_is) f cdv A outer s H E) (wcE E) (defBody st__law_is) m__law_is :=
  (jb_cons (js_if (PW.pt (jw_or (jt_not (jt_tru (je_isi rfl G.free_isinstance rfl G.free_tuple bt_tuple (by decide) (je_var 0)))) (jw_or1 (jt_cmp (opd_ne (huR hr)) (je_callB cad_len rfl G.free_len bt_len (ja_cons (je_var 0) ja_nil)) je_int rfl)))) (jb_one (js_ret je_bl)) jb_nil)
  (jb_cons (js_if (PW.pt (jw_or (jt_not (jt_tru (je_call d__law_integer (hr.mono (by decide)) (L2N.takes_of rfl rfl rfl rfl) rfl (ja_cons (je_ix ixd (je_var 0) je_int) ja_nil)))) (jw_or1 (jt_not (jt_tru (je_call d__law_integer (hr.mono (by decide)) (L2N.takes_of rfl rfl rfl rfl) rfl (ja_cons (je_ix ixd (je_var 0) je_int) ja_nil))))))) (jb_one (js_ret je_bl)) jb_nil)
  (jb_one (js_ret (je_and (je_cmp (opd_eq (huR hr)) (je_ix ixd (je_var 0) je_int) (je_ix ixd (je_var 1) je_int) rfl) (je_one (je_cmp (opd_eq (huR hr)) (je_ix ixd (je_var 0) je_int) (je_ix ixd (je_var 1) je_int) rfl)))))))
theorem jbh__law_is (G : Gs P K mg) (dh__law_integer : DefOk true P w K mg base ("_law_integer" : Str) [] 1 g__law_integer) {f : Addr} {cdv : Value} {A : Around} {outer : List PySem.Env} {s : Shared} {H : Hp} {E : XK} {pp : Addr × Obj} (hhot : L2H.Hot1 A pp) (hr : L2H.RoomH 1 (A.deeper (envOfC ("_law_is" : Str) (defScope st__law_is) s.heap.objs.size f cdv))) :
    JB (L2H.cxH (L2N.CX P w) P w K mg base [("answer" : Str), ("due" : Str)] ("_law_is" : Str) (defScope st__law_is) f cdv A outer s H E pp) (wcE E) (defBody st__law_is) m__law_is :=
  (jb_cons (js_if (PW.pt (jw_or (jt_not (jt_tru (je_isi rfl G.free_isinstance rfl G.free_tuple bt_tuple (by decide) (je_var 0)))) (jw_or1 (jt_cmp (opd_ne (huH hr)) (je_callB cad_len rfl G.free_len bt_len (ja_cons (je_var 0) ja_nil)) je_int rfl)))) (jb_one (js_ret je_bl)) jb_nil)
  (jb_cons (js_if (PW.pt (jw_or (jt_not (jt_tru (je_call dh__law_integer ⟨hr.mono (by decide), ⟨_, hhot, List.mem_singleton.mpr rfl⟩⟩ (L2N.takes_of rfl rfl rfl rfl) rfl (ja_cons (je_ix ixd (je_var 0) je_int) ja_nil)))) (jw_or1 (jt_not (jt_tru (je_call dh__law_integer ⟨hr.mono (by decide), ⟨_, hhot, List.mem_singleton.mpr rfl⟩⟩ (L2N.takes_of rfl rfl rfl rfl) rfl (ja_cons (je_ix ixd (je_var 0) je_int) ja_nil))))))) (jb_one (js_ret je_bl)) jb_nil)
  (jb_one (js_ret (je_and (je_cmp (opd_eq (huH hr)) (je_ix ixd (je_var 0) je_int) (je_ix ixd (je_var 1) je_int) rfl) (je_one (je_cmp (opd_eq (huH hr)) (je_ix ixd (je_var 0) je_int) (je_ix ixd (je_var 1) je_int) rfl)))))))
theorem d__law_is (G : Gs P K mg) (d__law_integer : DefOk false P w K mg base ("_law_integer" : Str) [] 1 g__law_integer) (gm : mg ("_law_is" : Str) = some (.ref (He.fAd K (("_law_is" : Str), none)))) {fd : FuncData} (F : FunD K ("_law_is" : Str) ("_law_is" : Str) (defArgs st__law_is) (defBody st__law_is) (defScope st__law_is) [] [] (He.fAd K (("_law_is" : Str), none)) fd) : DefOk false P w K mg base ("_law_is" : Str) [] 2 g__law_is :=
  ⟨_, gm, F.kp, rn_pos (hot := false) (def_ok F sc__law_is fun cdv A outer s H E hr => jb__law_is G d__law_integer hr) rfl (F.bindsN fun _ _ _ _ _ _ us hl => match us, hl with | [_, _], _ => rfl)⟩
theorem dh__law_is (G : Gs P K mg) (dh__law_integer : DefOk true P w K mg base ("_law_integer" : Str) [] 1 g__law_integer) (gm : mg ("_law_is" : Str) = some (.ref (He.fAd K (("_law_is" : Str), none)))) {fd : FuncData} (F : FunD K ("_law_is" : Str) ("_law_is" : Str) (defArgs st__law_is) (defBody st__law_is) (defScope st__law_is) [] [] (He.fAd K (("_law_is" : Str), none)) fd) : DefOk true P w K mg base ("_law_is" : Str) [] 2 g__law_is :=
  ⟨_, gm, F.kp, rn_pos (hot := true) (def_okH F sc__law_is fun cdv A outer s H E p hot hr => jbh__law_is G dh__law_integer hot hr) rfl (F.bindsN fun _ _ _ _ _ _ us hl => match us, hl with | [_, _], _ => rfl)⟩
theorem jb__law_sum (G : Gs P K mg) (d__law_lowest : DefOk false P w K mg base ("_law_lowest" : Str) [] 2 g__law_lowest) {f : Addr} {cdv : Value} {A : Around} {outer : List PySem.Env} {s : Shared} {H : Hp} {E : XK} (hr : Room 2 (A.deeper (envOfC ("_law_sum" : Str) (defScope st__law_sum) s.heap.objs.size f cdv))) :
    JB (cxOf (L2N.CX P w) P w K mg base [("few" : Str), ("above" : Str), ("below" : Str), ("a" : Str)] ("_law_sum" : Str) (defScope st__law_sum) f cdv A outer s H E) (wcE E) (defBody st__law_sum) m__law_sum :=
  (jb_cons (js_set (i := 1) sc__law_sum.nd rfl (Or.inl rfl) je_int)
  (jb_cons (js_set (i := 2) sc__law_sum.nd rfl (Or.inl rfl) je_int)
  (jb_cons (js_for (L2.passes_of rfl) rfl (je_var 0) (jg_name (i := 3) sc__law_sum.nd rfl (Or.inl rfl)) (jb_cons (js_set (i := 1) sc__law_sum.nd rfl (Or.inl rfl) (je_op opd_add (je_op opd_mul (je_var 1) (je_ix ixd (je_var 3) je_int)) (je_op opd_mul (je_ix ixd (je_var 3) je_int) (je_var 2))))
  (jb_one (js_set (i := 2) sc__law_sum.nd rfl (Or.inl rfl) (je_op opd_mul (je_var 2) (je_ix ixd (je_var 3) je_int))))))
  (jb_one (js_ret (je_call d__law_lowest (hr.mono (by decide)) (L2N.takes_of rfl rfl rfl rfl) rfl (ja_cons (je_var 1) (ja_cons (je_var 2) ja_nil))))))))
theorem d__law_sum (G : Gs P K mg) (d__law_lowest : DefOk false P w K mg base ("_law_lowest" : Str) [] 2 g__law_lowest) (gm : mg ("_law_sum" : Str) = some (.ref (He.fAd K (("_law_sum" : Str), none)))) {fd : FuncData} (F : FunD K ("_law_sum" : Str) ("_law_sum" : Str) (defArgs st__law_sum) (defBody st__law_sum) (defScope st__law_sum) [] [] (He.fAd K (("_law_sum" : Str), none)) fd) : DefOk false P w K mg base ("_law_sum" : Str) [] 3 g__law_sum :=
  ⟨_, gm, F.kp, rn_pos (hot := false) (def_ok F sc__law_sum fun cdv A outer s H E hr => jb__law_sum G d__law_lowest hr) rfl (F.bindsN fun _ _ _ _ _ _ us hl => match us, hl with | [_], _ => rfl)⟩
theorem jb__law_forms_sum (G : Gs P K mg) (d__law_sum : DefOk false P w K mg base ("_law_sum" : Str) [] 3 g__law_sum) {f : Addr} {cdv : Value} {A : Around} {outer : List PySem.Env} {s : Shared} {H : Hp} {E : XK} (hr : Room 3 (A.deeper (envOfC ("_law_forms_sum" : Str) (defScope st__law_forms_sum) s.heap.objs.size f cdv))) :
    JB (cxOf (L2N.CX P w) P w K mg base [("forms" : Str), ("wide" : Str), ("row" : Str), ("k" : Str), ("shape" : Str)] ("_law_forms_sum" : Str) (defScope st__law_forms_sum) f cdv A outer s H E) (wcE E) (defBody st__law_forms_sum) m__law_forms_sum :=
  (jb_cons (js_set (i := 2) sc__law_forms_sum.nd rfl (Or.inl rfl) (je_lst ja_nil flen_nil))
  (jb_cons (js_forR1 (L2.passes_of rfl) rfl rfl G.free_range (ja_cons (je_op opd_add (je_var 1) je_int) ja_nil) (jg_name (i := 3) sc__law_forms_sum.nd rfl (Or.inr rfl)) (jb_one (js_expr (je_lm PySem.F.slot_list_append PySem.F.type_list_append mtd_append (je_var 2) (ja_cons (je_call d__law_sum (hr.mono (by decide)) (L2N.takes_of rfl rfl rfl rfl) rfl (ja_cons (je_lc [(("shape" : Str), 4)] rfl rfl sc__law_forms_sum.nd (ji_seq (je_var 0)) (blkOk_by (N := [("forms" : Str), ("wide" : Str), ("row" : Str), ("k" : Str), ("shape" : Str)]) (sc := defScope st__law_forms_sum) (own := [(("shape" : Str), 4)]) (by decide +kernel)) (fun _ _ _ _ _ => (jgw_name (i := 4) sc__law_forms_sum.nd rfl (by decide))) (fun _ _ _ _ _ => jts_nil) (fun _ _ _ _ _ => (je_ix ixd (je_var 4) (je_var 3)))) ja_nil)) ja_nil)))))
  (jb_one (js_ret (je_callTy cad_tuple rfl G.free_tuple bt_tuple (ja_cons (je_var 2) ja_nil))))))
theorem d__law_forms_sum (G : Gs P K mg) (d__law_sum : DefOk false P w K mg base ("_law_sum" : Str) [] 3 g__law_sum) (gm : mg ("_law_forms_sum" : Str) = some (.ref (He.fAd K (("_law_forms_sum" : Str), none)))) {fd : FuncData} (F : FunD K ("_law_forms_sum" : Str) ("_law_forms_sum" : Str) (defArgs st__law_forms_sum) (defBody st__law_forms_sum) (defScope st__law_forms_sum) [] [] (He.fAd K (("_law_forms_sum" : Str), none)) fd) : DefOk false P w K mg base ("_law_forms_sum" : Str) [] 4 g__law_forms_sum :=
  ⟨_, gm, F.kp, rn_pos (hot := false) (def_ok F sc__law_forms_sum fun cdv A outer s H E hr => jb__law_forms_sum G d__law_sum hr) rfl (F.bindsN fun _ _ _ _ _ _ us hl => match us, hl with | [_, _], _ => rfl)⟩
theorem jb__law_product (G : Gs P K mg) (d__law_lowest : DefOk false P w K mg base ("_law_lowest" : Str) [] 2 g__law_lowest) {f : Addr} {cdv : Value} {A : Around} {outer : List PySem.Env} {s : Shared} {H : Hp} {E : XK} (hr : Room 2 (A.deeper (envOfC ("_law_product" : Str) (defScope st__law_product) s.heap.objs.size f cdv))) :
    JB (cxOf (L2N.CX P w) P w K mg base [("a" : Str), ("b" : Str)] ("_law_product" : Str) (defScope st__law_product) f cdv A outer s H E) (wcE E) (defBody st__law_product) m__law_product :=
  (jb_one (js_ret (je_call d__law_lowest (hr.mono (by decide)) (L2N.takes_of rfl rfl rfl rfl) rfl (ja_cons (je_op opd_mul (je_ix ixd (je_var 0) je_int) (je_ix ixd (je_var 1) je_int)) (ja_cons (je_op opd_mul (je_ix ixd (je_var 0) je_int) (je_ix ixd (je_var 1) je_int)) ja_nil)))))
theorem d__law_product (G : Gs P K mg) (d__law_lowest : DefOk false P w K mg base ("_law_lowest" : Str) [] 2 g__law_lowest) (gm : mg ("_law_product" : Str) = some (.ref (He.fAd K (("_law_product" : Str), none)))) {fd : FuncData} (F : FunD K ("_law_product" : Str) ("_law_product" : Str) (defArgs st__law_product) (defBody st__law_product) (defScope st__law_product) [] [] (He.fAd K (("_law_product" : Str), none)) fd) : DefOk false P w K mg base ("_law_product" : Str) [] 3 g__law_product :=
  ⟨_, gm, F.kp, rn_pos (hot := false) (def_ok F sc__law_product fun cdv A outer s H E hr => jb__law_product G d__law_lowest hr) rfl (F.bindsN fun _ _ _ _ _ _ us hl => match us, hl with | [_, _], _ => rfl)⟩
theorem jb__law_scaled (G : Gs P K mg) (d__law_product : DefOk false P w K mg base ("_law_product" : Str) [] 3 g__law_product) {f : Addr} {cdv : Value} {A : Around} {outer : List PySem.Env} {s : Shared} {H : Hp} {E : XK} (hr : Room 3 (A.deeper (envOfC ("_law_scaled" : Str) (defScope st__law_scaled) s.heap.objs.size f cdv))) :
    JB (cxOf (L2N.CX P w) P w K mg base [("shape" : Str), ("factor" : Str), ("a" : Str)] ("_law_scaled" : Str) (defScope st__law_scaled) f cdv A outer s H E) (wcE E) (defBody st__law_scaled) m__law_scaled :=
  (jb_one (js_ret (je_callTy cad_tuple rfl G.free_tuple bt_tuple (ja_cons (je_lc [(("a" : Str), 2)] rfl rfl sc__law_scaled.nd (ji_seq (je_var 0)) (blkOk_by (N := [("shape" : Str), ("factor" : Str), ("a" : Str)]) (sc := defScope st__law_scaled) (own := [(("a" : Str), 2)]) (by decide +kernel)) (fun _ _ _ _ _ => (jgw_name (i := 2) sc__law_scaled.nd rfl (by decide))) (fun _ _ _ _ _ => jts_nil) (fun _ _ _ _ _ => (je_call d__law_product (hr.mono (by decide)) takes_no rfl (ja_cons (je_var 2) (ja_cons (je_var 1) ja_nil))))) ja_nil))))
theorem d__law_scaled (G : Gs P K mg) (d__law_product : DefOk false P w K mg base ("_law_product" : Str) [] 3 g__law_product) (gm : mg ("_law_scaled" : Str) = some (.ref (He.fAd K (("_law_scaled" : Str), none)))) {fd : FuncData} (F : FunD K ("_law_scaled" : Str) ("_law_scaled" : Str) (defArgs st__law_scaled) (defBody st__law_scaled) (defScope st__law_scaled) [] [] (He.fAd K (("_law_scaled" : Str), none)) fd) : DefOk false P w K mg base ("_law_scaled" : Str) [] 4 g__law_scaled :=
  ⟨_, gm, F.kp, rn_pos (hot := false) (def_ok F sc__law_scaled fun cdv A outer s H E hr => jb__law_scaled G d__law_product hr) rfl (F.bindsN fun _ _ _ _ _ _ us hl => match us, hl with | [_, _], _ => rfl)⟩
theorem jb__law_worth (G : Gs P K mg) (d__law_sum : DefOk false P w K mg base ("_law_sum" : Str) [] 3 g__law_sum) (d__law_product : DefOk false P w K mg base ("_law_product" : Str) [] 3 g__law_product) {f : Addr} {cdv : Value} {A : Around} {outer : List PySem.Env} {s : Shared} {H : Hp} {E : XK} (hr : Room 3 (A.deeper (envOfC ("_law_worth" : Str) (defScope st__law_worth) s.heap.objs.size f cdv))) :
    JB (cxOf (L2N.CX P w) P w K mg base [("shape" : Str), ("point" : Str), ("few" : Str), ("k" : Str)] ("_law_worth" : Str) (defScope st__law_worth) f cdv A outer s H E) (wcE E) (defBody st__law_worth) m__law_worth :=
  (jb_cons (js_set (i := 2) sc__law_worth.nd rfl (Or.inl rfl) (je_lst (ja_cons (je_ix ixd (je_var 0) je_int) ja_nil) (flen_cons flen_nil)))
  (jb_cons (js_forR1 (L2.passes_of rfl) rfl rfl G.free_range (ja_cons (je_callB cad_len rfl G.free_len bt_len (ja_cons (je_var 1) ja_nil)) ja_nil) (jg_name (i := 3) sc__law_worth.nd rfl (Or.inl rfl)) (jb_one (js_expr (je_lm PySem.F.slot_list_append PySem.F.type_list_append mtd_append (je_var 2) (ja_cons (je_call d__law_product (hr.mono (by decide)) (L2N.takes_of rfl rfl rfl rfl) rfl (ja_cons (je_ix ixd (je_var 0) (je_op opd_add (je_var 3) je_int)) (ja_cons (je_ix ixd (je_var 1) (je_var 3)) ja_nil))) ja_nil)))))
  (jb_one (js_ret (je_call d__law_sum (hr.mono (by decide)) (L2N.takes_of rfl rfl rfl rfl) rfl (ja_cons (je_var 2) ja_nil))))))
theorem d__law_worth (G : Gs P K mg) (d__law_sum : DefOk false P w K mg base ("_law_sum" : Str) [] 3 g__law_sum) (d__law_product : DefOk false P w K mg base ("_law_product" : Str) [] 3 g__law_product) (gm : mg ("_law_worth" : Str) = some (.ref (He.fAd K (("_law_worth" : Str), none)))) {fd : FuncData} (F : FunD K ("_law_worth" : Str) ("_law_worth" : Str) (defArgs st__law_worth) (defBody st__law_worth) (defScope st__law_worth) [] [] (He.fAd K (("_law_worth" : Str), none)) fd) : DefOk false P w K mg base ("_law_worth" : Str) [] 4 g__law_worth :=
  ⟨_, gm, F.kp, rn_pos (hot := false) (def_ok F sc__law_worth fun cdv A outer s H E hr => jb__law_worth G d__law_sum d__law_product hr) rfl (F.bindsN fun _ _ _ _ _ _ us hl => match us, hl with | [_, _], _ => rfl)⟩
theorem jb__law_form_is (G : Gs P K mg) (d__law_is : DefOk false P w K mg base ("_law_is" : Str) [] 2 g__law_is) {f : Addr} {cdv : Value} {A : Around} {outer : List PySem.Env} {s : Shared} {H : Hp} {E : XK} (hr : Room 2 (A.deeper (envOfC ("_law_form_is" : Str) (defScope st__law_form_is) s.heap.objs.size f cdv))) :
    JB (cxOf (L2N.CX P w) P w K mg base [("answer" : Str), ("due" : Str), ("k" : Str)] ("_law_form_is" : Str) (defScope st__law_form_is) f cdv A outer s H E) (wcE E) (defBody st__law_form_is) m__law_form_is :=
  (jb_cons (js_if (PW.pt (jw_or (jt_not (jt_tru (je_isi rfl G.free_isinstance rfl G.free_tuple bt_tuple (by decide) (je_var 0)))) (jw_or1 (jt_cmp (opd_ne (huR hr)) (je_callB cad_len rfl G.free_len bt_len (ja_cons (je_var 0) ja_nil)) (je_callB cad_len rfl G.free_len bt_len (ja_cons (je_var 1) ja_nil)) rfl)))) (jb_one (js_ret je_bl)) jb_nil)
  (jb_cons (js_forR1 (L2.passes_of rfl) rfl rfl G.free_range (ja_cons (je_callB cad_len rfl G.free_len bt_len (ja_cons (je_var 1) ja_nil)) ja_nil) (jg_name (i := 2) sc__law_form_is.nd rfl (Or.inl rfl)) (jb_one (js_if (jt_not (jt_tru (je_call d__law_is (hr.mono (by decide)) (L2N.takes_of rfl rfl rfl rfl) rfl (ja_cons (je_ix ixd (je_var 0) (je_var 2)) (ja_cons (je_ix ixd (je_var 1) (je_var 2)) ja_nil))))) (jb_one (js_ret je_bl)) jb_nil)))
  (jb_one (js_ret je_bl))))
theorem jbh__law_form_is (G : Gs P K mg) (dh__law_is : DefOk true P w K mg base ("_law_is" : Str) [] 2 g__law_is) {f : Addr} {cdv : Value} {A : Around} {outer : List PySem.Env} {s : Shared} {H : Hp} {E : XK} {pp : Addr × Obj} (hhot : L2H.Hot1 A pp) (hr : L2H.RoomH 2 (A.deeper (envOfC ("_law_form_is" : Str) (defScope st__law_form_is) s.heap.objs.size f cdv))) :
    JB (L2H.cxH (L2N.CX P w) P w K mg base [("answer" : Str), ("due" : Str), ("k" : Str)] ("_law_form_is" : Str) (defScope st__law_form_is) f cdv A outer s H E pp) (wcE E) (defBody st__law_form_is) m__law_form_is :=
  (jb_cons (js_if (PW.pt (jw_or (jt_not (jt_tru (je_isi rfl G.free_isinstance rfl G.free_tuple bt_tuple (by decide) (je_var 0)))) (jw_or1 (jt_cmp (opd_ne (huH hr)) (je_callB cad_len rfl G.free_len bt_len (ja_cons (je_var 0) ja_nil)) (je_callB cad_len rfl G.free_len bt_len (ja_cons (je_var 1) ja_nil)) rfl)))) (jb_one (js_ret je_bl)) jb_nil)
  (jb_cons (js_forR1H (L2.passes_of rfl) ⟨_, hhot, List.mem_singleton.mpr rfl⟩ rfl G.free_range (ja_cons (je_callB cad_len rfl G.free_len bt_len (ja_cons (je_var 1) ja_nil)) ja_nil) (jg_name (i := 2) sc__law_form_is.nd rfl (Or.inl rfl)) (jb_one (js_if (jt_not (jt_tru (je_call dh__law_is ⟨hr.mono (by decide), ⟨_, hhot, List.mem_singleton.mpr rfl⟩⟩ (L2N.takes_of rfl rfl rfl rfl) rfl (ja_cons (je_ix ixd (je_var 0) (je_var 2)) (ja_cons (je_ix ixd (je_var 1) (je_var 2)) ja_nil))))) (jb_one (js_ret je_bl)) jb_nil)))
  (jb_one (js_ret je_bl))))
theorem d__law_form_is (G : Gs P K mg) (d__law_is : DefOk false P w K mg base ("_law_is" : Str) [] 2 g__law_is) (gm : mg ("_law_form_is" : Str) = some (.ref (He.fAd K (("_law_form_is" : Str), none)))) {fd : FuncData} (F : FunD K ("_law_form_is" : Str) ("_law_form_is" : Str) (defArgs st__law_form_is) (defBody st__law_form_is) (defScope st__law_form_is) [] [] (He.fAd K (("_law_form_is" : Str), none)) fd) : DefOk false P w K mg base ("_law_form_is" : Str) [] 3 g__law_form_is :=
  ⟨_, gm, F.kp, rn_pos (hot := false) (def_ok F sc__law_form_is fun cdv A outer s H E hr => jb__law_form_is G d__law_is hr) rfl (F.bindsN fun _ _ _ _ _ _ us hl => match us, hl with | [_, _], _ => rfl)⟩
theorem dh__law_form_is (G : Gs P K mg) (dh__law_is : DefOk true P w K mg base ("_law_is" : Str) [] 2 g__law_is) (gm : mg ("_law_form_is" : Str) = some (.ref (He.fAd K (("_law_form_is" : Str), none)))) {fd : FuncData} (F : FunD K ("_law_form_is" : Str) ("_law_form_is" : Str) (defArgs st__law_form_is) (defBody st__law_form_is) (defScope st__law_form_is) [] [] (He.fAd K (("_law_form_is" : Str), none)) fd) : DefOk true P w K mg base ("_law_form_is" : Str) [] 3 g__law_form_is :=
  ⟨_, gm, F.kp, rn_pos (hot := true) (def_okH F sc__law_form_is fun cdv A outer s H E p hot hr => jbh__law_form_is G dh__law_is hot hr) rfl (F.bindsN fun _ _ _ _ _ _ us hl => match us, hl with | [_, _], _ => rfl)⟩
theorem jb__law_keeps (G : Gs P K mg)  {f : Addr} {cdv : Value} {A : Around} {outer : List PySem.Env} {s : Shared} {H : Hp} {E : XK} (hr : Room 0 (A.deeper (envOfC ("_law_keeps" : Str) (defScope st__law_keeps) s.heap.objs.size f cdv))) :
    JB (cxOf (L2N.CX P w) P w K mg base [("shape" : Str), ("a" : Str)] ("_law_keeps" : Str) (defScope st__law_keeps) f cdv A outer s H E) (wcE E) (defBody st__law_keeps) m__law_keeps :=
  (jb_cons (js_for (L2.passes_of rfl) rfl (je_var 0) (jg_name (i := 1) sc__law_keeps.nd rfl (Or.inl rfl)) (jb_one (js_if (PW.pt (jw_or (jt_cmp opd_ge (je_callB cad_abs rfl G.free_abs bt_abs (ja_cons (je_ix ixd (je_var 1) je_int) ja_nil)) (je_op opd_pow je_int je_int) rfl) (jw_or1 (jt_cmp opd_ge (je_ix ixd (je_var 1) je_int) (je_op opd_pow je_int je_int) rfl)))) (jb_one (js_ret je_bl)) jb_nil)))
  (jb_one (js_ret je_bl)))
theorem d__law_keeps (G : Gs P K mg)  (gm : mg ("_law_keeps" : Str) = some (.ref (He.fAd K (("_law_keeps" : Str), none)))) {fd : FuncData} (F : FunD K ("_law_keeps" : Str) ("_law_keeps" : Str) (defArgs st__law_keeps) (defBody st__law_keeps) (defScope st__law_keeps) [] [] (He.fAd K (("_law_keeps" : Str), none)) fd) : DefOk false P w K mg base ("_law_keeps" : Str) [] 1 g__law_keeps :=
  ⟨_, gm, F.kp, rn_pos (hot := false) (def_ok F sc__law_keeps fun cdv A outer s H E hr => jb__law_keeps G  hr) rfl (F.bindsN fun _ _ _ _ _ _ us hl => match us, hl with | [_], _ => rfl)⟩
theorem jb__law_agrees (G : Gs P K mg) (d_value_at : DefOk false P w K mg base ("value_at" : Str) [] 3 g_value_at) (d__law_is : DefOk false P w K mg base ("_law_is" : Str) [] 2 g__law_is) (d__law_form_is : DefOk false P w K mg base ("_law_form_is" : Str) [] 3 g__law_form_is) (d__law_worth : DefOk false P w K mg base ("_law_worth" : Str) [] 4 g__law_worth) (d__law_keeps : DefOk false P w K mg base ("_law_keeps" : Str) [] 1 g__law_keeps) {f : Addr} {cdv : Value} {A : Around} {outer : List PySem.Env} {s : Shared} {H : Hp} {E : XK} (hr : Room 4 (A.deeper (envOfC ("_law_agrees" : Str) (defScope st__law_agrees) s.heap.objs.size f cdv))) :
    JB (cxOf (L2N.CX P w) P w K mg base [("answer" : Str), ("due" : Str), ("point" : Str)] ("_law_agrees" : Str) (defScope st__law_agrees) f cdv A outer s H E) (wcE E) (defBody st__law_agrees) m__law_agrees :=
  (jb_cons (js_if (jt_not (jt_tru (je_call d__law_form_is (hr.mono (by decide)) (L2N.takes_of rfl rfl rfl rfl) rfl (ja_cons (je_var 0) (ja_cons (je_var 1) ja_nil))))) (jb_one (js_ret je_bl)) jb_nil)
  (jb_one (js_ret (je_or (je_not (je_call d__law_keeps (hr.mono (by decide)) (L2N.takes_of rfl rfl rfl rfl) rfl (ja_cons (je_var 1) ja_nil))) (je_one (je_call d__law_is (hr.mono (by decide)) (L2N.takes_of rfl rfl rfl rfl) rfl (ja_cons (je_call d_value_at (hr.mono (by decide)) (L2N.takes_of rfl rfl rfl rfl) rfl (ja_cons (je_var 0) (ja_cons (je_var 2) ja_nil))) (ja_cons (je_call d__law_worth (hr.mono (by decide)) (L2N.takes_of rfl rfl rfl rfl) rfl (ja_cons (je_var 1) (ja_cons (je_var 2) ja_nil))) ja_nil))))))))
theorem d__law_agrees (G : Gs P K mg) (d_value_at : DefOk false P w K mg base ("value_at" : Str) [] 3 g_value_at) (d__law_is : DefOk false P w K mg base ("_law_is" : Str) [] 2 g__law_is) (d__law_form_is : DefOk false P w K mg base ("_law_form_is" : Str) [] 3 g__law_form_is) (d__law_worth : DefOk false P w K mg base ("_law_worth" : Str) [] 4 g__law_worth) (d__law_keeps : DefOk false P w K mg base ("_law_keeps" : Str) [] 1 g__law_keeps) (gm : mg ("_law_agrees" : Str) = some (.ref (He.fAd K (("_law_agrees" : Str), none)))) {fd : FuncData} (F : FunD K ("_law_agrees" : Str) ("_law_agrees" : Str) (defArgs st__law_agrees) (defBody st__law_agrees) (defScope st__law_agrees) [] [] (He.fAd K (("_law_agrees" : Str), none)) fd) : DefOk false P w K mg base ("_law_agrees" : Str) [] 5 g__law_agrees :=
  ⟨_, gm, F.kp, rn_pos (hot := false) (def_ok F sc__law_agrees fun cdv A outer s H E hr => jb__law_agrees G d_value_at d__law_is d__law_form_is d__law_worth d__law_keeps hr) rfl (F.bindsN fun _ _ _ _ _ _ us hl => match us, hl with | [_, _, _], _ => rfl)⟩
theorem jb__law_two_right (G : Gs P K mg) (d_form_plus : DefOk false P w K mg base ("form_plus" : Str) [] 3 g_form_plus) (d_form_minus : DefOk false P w K mg base ("form_minus" : Str) [] 3 g_form_minus) (d_form_times : DefOk false P w K mg base ("form_times" : Str) [] 3 g_form_times) (d_value_at : DefOk false P w K mg base ("value_at" : Str) [] 3 g_value_at) (d__law_is : DefOk false P w K mg base ("_law_is" : Str) [] 2 g__law_is) (d__law_forms_sum : DefOk false P w K mg base ("_law_forms_sum" : Str) [] 4 g__law_forms_sum) (d__law_scaled : DefOk false P w K mg base ("_law_scaled" : Str) [] 4 g__law_scaled) (d__law_worth : DefOk false P w K mg base ("_law_worth" : Str) [] 4 g__law_worth) (d__law_agrees : DefOk false P w K mg base ("_law_agrees" : Str) [] 5 g__law_agrees) {f : Addr} {cdv : Value} {A : Around} {outer : List PySem.Env} {s : Shared} {H : Hp} {E : XK} (hr : Room 5 (A.deeper (envOfC ("_law_two_right" : Str) (defScope st__law_two_right) s.heap.objs.size f cdv))) :
    JB (cxOf (L2N.CX P w) P w K mg base [("one" : Str), ("two" : Str), ("point" : Str), ("factor" : Str), ("wide" : Str), ("less" : Str), ("by" : Str)] ("_law_two_right" : Str) (defScope st__law_two_right) f cdv A outer s H E) (wcE E) (defBody st__law_two_right) m__law_two_right :=
  (jb_cons (js_set (i := 4) sc__law_two_right.nd rfl (Or.inl rfl) (je_callB cad_len rfl G.free_len bt_len (ja_cons (je_var 2) ja_nil)))
  (jb_cons (js_set (i := 5) sc__law_two_right.nd rfl (Or.inl rfl) (je_call d__law_scaled (hr.mono (by decide)) (L2N.takes_of rfl rfl rfl rfl) rfl (ja_cons (je_var 1) (ja_cons (je_tup (ja_cons (je_un und_neg je_int) (ja_cons je_int ja_nil)) (flen_cons (flen_cons flen_nil))) ja_nil))))
  (jb_cons (js_if (jt_not (jt_tru (je_call d__law_is (hr.mono (by decide)) (L2N.takes_of rfl rfl rfl rfl) rfl (ja_cons (je_call d_value_at (hr.mono (by decide)) (L2N.takes_of rfl rfl rfl rfl) rfl (ja_cons (je_var 0) (ja_cons (je_var 2) ja_nil))) (ja_cons (je_call d__law_worth (hr.mono (by decide)) (L2N.takes_of rfl rfl rfl rfl) rfl (ja_cons (je_var 0) (ja_cons (je_var 2) ja_nil))) ja_nil))))) (jb_one (js_ret je_bl)) jb_nil)
  (jb_cons (js_if (jt_not (jt_tru (je_call d__law_agrees (hr.mono (by decide)) (L2N.takes_of rfl rfl rfl rfl) rfl (ja_cons (je_call d_form_plus (hr.mono (by decide)) (L2N.takes_of rfl rfl rfl rfl) rfl (ja_cons (je_var 0) (ja_cons (je_var 1) ja_nil))) (ja_cons (je_call d__law_forms_sum (hr.mono (by decide)) (L2N.takes_of rfl rfl rfl rfl) rfl (ja_cons (je_lst (ja_cons (je_var 0) (ja_cons (je_var 1) ja_nil)) (flen_cons (flen_cons flen_nil))) (ja_cons (je_var 4) ja_nil))) (ja_cons (je_var 2) ja_nil)))))) (jb_one (js_ret je_bl)) jb_nil)
  (jb_cons (js_if (jt_not (jt_tru (je_call d__law_agrees (hr.mono (by decide)) (L2N.takes_of rfl rfl rfl rfl) rfl (ja_cons (je_call d_form_minus (hr.mono (by decide)) (L2N.takes_of rfl rfl rfl rfl) rfl (ja_cons (je_var 0) (ja_cons (je_var 1) ja_nil))) (ja_cons (je_call d__law_forms_sum (hr.mono (by decide)) (L2N.takes_of rfl rfl rfl rfl) rfl (ja_cons (je_lst (ja_cons (je_var 0) (ja_cons (je_var 5) ja_nil)) (flen_cons (flen_cons flen_nil))) (ja_cons (je_var 4) ja_nil))) (ja_cons (je_var 2) ja_nil)))))) (jb_one (js_ret je_bl)) jb_nil)
  (jb_cons (js_for (L2.passes_of rfl) rfl (je_lst (ja_cons (je_var 3) (ja_cons (je_tup (ja_cons (je_un und_neg je_int) (ja_cons je_int ja_nil)) (flen_cons (flen_cons flen_nil))) (ja_cons (je_tup (ja_cons je_int (ja_cons je_int ja_nil)) (flen_cons (flen_cons flen_nil))) ja_nil))) (flen_cons (flen_cons (flen_cons flen_nil)))) (jg_name (i := 6) sc__law_two_right.nd rfl (Or.inl rfl)) (jb_one (js_if (jt_not (jt_tru (je_call d__law_agrees (hr.mono (by decide)) (L2N.takes_of rfl rfl rfl rfl) rfl (ja_cons (je_call d_form_times (hr.mono (by decide)) (L2N.takes_of rfl rfl rfl rfl) rfl (ja_cons (je_var 0) (ja_cons (je_var 6) ja_nil))) (ja_cons (je_call d__law_scaled (hr.mono (by decide)) (L2N.takes_of rfl rfl rfl rfl) rfl (ja_cons (je_var 0) (ja_cons (je_var 6) ja_nil))) (ja_cons (je_var 2) ja_nil)))))) (jb_one (js_ret je_bl)) jb_nil)))
  (jb_one (js_ret je_bl))))))))
theorem d__law_two_right (G : Gs P K mg) (d_form_plus : DefOk false P w K mg base ("form_plus" : Str) [] 3 g_form_plus) (d_form_minus : DefOk false P w K mg base ("form_minus" : Str) [] 3 g_form_minus) (d_form_times : DefOk false P w K mg base ("form_times" : Str) [] 3 g_form_times) (d_value_at : DefOk false P w K mg base ("value_at" : Str) [] 3 g_value_at) (d__law_is : DefOk false P w K mg base ("_law_is" : Str) [] 2 g__law_is) (d__law_forms_sum : DefOk false P w K mg base ("_law_forms_sum" : Str) [] 4 g__law_forms_sum) (d__law_scaled : DefOk false P w K mg base ("_law_scaled" : Str) [] 4 g__law_scaled) (d__law_worth : DefOk false P w K mg base ("_law_worth" : Str) [] 4 g__law_worth) (d__law_agrees : DefOk false P w K mg base ("_law_agrees" : Str) [] 5 g__law_agrees) (gm : mg ("_law_two_right" : Str) = some (.ref (He.fAd K (("_law_two_right" : Str), none)))) {fd : FuncData} (F : FunD K ("_law_two_right" : Str) ("_law_two_right" : Str) (defArgs st__law_two_right) (defBody st__law_two_right) (defScope st__law_two_right) [] [] (He.fAd K (("_law_two_right" : Str), none)) fd) : DefOk false P w K mg base ("_law_two_right" : Str) [] 6 g__law_two_right :=
  ⟨_, gm, F.kp, rn_pos (hot := false) (def_ok F sc__law_two_right fun cdv A outer s H E hr => jb__law_two_right G d_form_plus d_form_minus d_form_times d_value_at d__law_is d__law_forms_sum d__law_scaled d__law_worth d__law_agrees hr) rfl (F.bindsN fun _ _ _ _ _ _ us hl => match us, hl with | [_, _, _, _], _ => rfl)⟩
theorem jb__is_integer (G : Gs P K mg)  {f : Addr} {cdv : Value} {A : Around} {outer : List PySem.Env} {s : Shared} {H : Hp} {E : XK} (hr : Room 0 (A.deeper (envOfC ("_is_integer" : Str) (defScope st__is_integer) s.heap.objs.size f cdv))) :
    JB (cxOf (L2N.CX P w) P w K mg base [("value" : Str)] ("_is_integer" : Str) (defScope st__is_integer) f cdv A outer s H E) (wcE E) (defBody st__is_integer) m__is_integer :=
  (jb_one (js_ret (je_and (je_isi rfl G.free_isinstance rfl G.free_int bt_int (by decide) (je_var 0)) (je_one (je_not (je_isi rfl G.free_isinstance rfl G.free_bool bt_bool (by decide) (je_var 0)))))))
theorem d__is_integer (G : Gs P K mg)  (gm : mg ("_is_integer" : Str) = some (.ref (He.fAd K (("_is_integer" : Str), none)))) {fd : FuncData} (F : FunD K ("_is_integer" : Str) ("_is_integer" : Str) (defArgs st__is_integer) (defBody st__is_integer) (defScope st__is_integer) [] [] (He.fAd K (("_is_integer" : Str), none)) fd) : DefOk false P w K mg base ("_is_integer" : Str) [] 1 g__is_integer :=
  ⟨_, gm, F.kp, rn_pos (hot := false) (def_ok F sc__is_integer fun cdv A outer s H E hr => jb__is_integer G  hr) rfl (F.bindsN fun _ _ _ _ _ _ us hl => match us, hl with | [_], _ => rfl)⟩
theorem jb_is_number (G : Gs P K mg) (d__is_integer : DefOk false P w K mg base ("_is_integer" : Str) [] 1 g__is_integer) {f : Addr} {cdv : Value} {A : Around} {outer : List PySem.Env} {s : Shared} {H : Hp} {E : XK} (hr : Room 1 (A.deeper (envOfC ("is_number" : Str) (defScope st_is_number) s.heap.objs.size f cdv))) :
    JB (cxOf (L2N.CX P w) P w K mg base [("value" : Str), ("top" : Str), ("bottom" : Str)] ("is_number" : Str) (defScope st_is_number) f cdv A outer s H E) (wcE E) (defBody st_is_number) m_is_number :=
  (jb_cons (js_if (PW.pt (jw_or (jt_not (jt_tru (je_isi rfl G.free_isinstance rfl G.free_tuple bt_tuple (by decide) (je_var 0)))) (jw_or1 (jt_cmp (opd_ne (huR hr)) (je_callB cad_len rfl G.free_len bt_len (ja_cons (je_var 0) ja_nil)) je_int rfl)))) (jb_one (js_ret je_bl)) jb_nil)
  (jb_cons (js_asg (je_var 0) (jg_tup rfl (jgs_cons (jg_name (i := 1) sc_is_number.nd rfl (Or.inl rfl)) (jgs_cons (jg_name (i := 2) sc_is_number.nd rfl (Or.inl rfl)) jgs_nil))))
  (jb_cons (js_if (PW.pt (jw_or (jt_not (jt_tru (je_call d__is_integer (hr.mono (by decide)) (L2N.takes_of rfl rfl rfl rfl) rfl (ja_cons (je_var 1) ja_nil)))) (jw_or1 (jt_not (jt_tru (je_call d__is_integer (hr.mono (by decide)) (L2N.takes_of rfl rfl rfl rfl) rfl (ja_cons (je_var 2) ja_nil))))))) (jb_one (js_ret je_bl)) jb_nil)
  (jb_one (js_ret (je_and (je_cmp opd_ge (je_var 2) je_int rfl) (je_one (je_cmp (opd_eq (huR hr)) (je_callBfun cad_gcd rfl G.blt_gcd (ja_cons (je_var 1) (ja_cons (je_var 2) ja_nil))) je_int rfl))))))))
theorem d_is_number (G : Gs P K mg) (d__is_integer : DefOk false P w K mg base ("_is_integer" : Str) [] 1 g__is_integer) (gm : mg ("is_number" : Str) = some (.ref (He.fAd K (("is_number" : Str), none)))) {fd : FuncData} (F : FunD K ("is_number" : Str) ("is_number" : Str) (defArgs st_is_number) (defBody st_is_number) (defScope st_is_number) [] [] (He.fAd K (("is_number" : Str), none)) fd) : DefOk false P w K mg base ("is_number" : Str) [] 2 g_is_number :=
  ⟨_, gm, F.kp, rn_pos (hot := false) (def_ok F sc_is_number fun cdv A outer s H E hr => jb_is_number G d__is_integer hr) rfl (F.bindsN fun _ _ _ _ _ _ us hl => match us, hl with | [_], _ => rfl)⟩
theorem jb_is_form (G : Gs P K mg) (d_is_number : DefOk false P w K mg base ("is_number" : Str) [] 2 g_is_number) {f : Addr} {cdv : Value} {A : Around} {outer : List PySem.Env} {s : Shared} {H : Hp} {E : XK} (hr : Room 2 (A.deeper (envOfC ("is_form" : Str) (defScope st_is_form) s.heap.objs.size f cdv))) :
    JB (cxOf (L2N.CX P w) P w K mg base [("value" : Str), ("size" : Str), ("coefficient" : Str)] ("is_form" : Str) (defScope st_is_form) f cdv A outer s H E) (wcE E) (defBody st_is_form) m_is_form :=
  (jb_cons (js_if (PW.pt (jw_or (jt_not (jt_tru (je_isi rfl G.free_isinstance rfl G.free_tuple bt_tuple (by decide) (je_var 0)))) (jw_or1 (jt_cmp (opd_ne (huR hr)) (je_callB cad_len rfl G.free_len bt_len (ja_cons (je_var 0) ja_nil)) (je_op opd_add (je_var 1) je_int) rfl)))) (jb_one (js_ret je_bl)) jb_nil)
  (jb_one (js_ret (je_callB (cad_all rfl) rfl G.free_all bt_all (ja_cons (je_lc [(("coefficient" : Str), 2)] rfl rfl sc_is_form.nd (ji_seq (je_var 0)) (blkOk_by (N := [("value" : Str), ("size" : Str), ("coefficient" : Str)]) (sc := defScope st_is_form) (own := [(("coefficient" : Str), 2)]) (by decide +kernel)) (fun _ _ _ _ _ => (jgw_name (i := 2) sc_is_form.nd rfl (by decide))) (fun _ _ _ _ _ => jts_nil) (fun _ _ _ _ _ => (je_call d_is_number (hr.mono (by decide)) takes_no rfl (ja_cons (je_var 2) ja_nil)))) ja_nil)))))
theorem d_is_form (G : Gs P K mg) (d_is_number : DefOk false P w K mg base ("is_number" : Str) [] 2 g_is_number) (gm : mg ("is_form" : Str) = some (.ref (He.fAd K (("is_form" : Str), none)))) {fd : FuncData} (F : FunD K ("is_form" : Str) ("is_form" : Str) (defArgs st_is_form) (defBody st_is_form) (defScope st_is_form) [] [] (He.fAd K (("is_form" : Str), none)) fd) : DefOk false P w K mg base ("is_form" : Str) [] 3 g_is_form :=
  ⟨_, gm, F.kp, rn_pos (hot := false) (def_ok F sc_is_form fun cdv A outer s H E hr => jb_is_form G d_is_number hr) rfl (F.bindsN fun _ _ _ _ _ _ us hl => match us, hl with | [_, _], _ => rfl)⟩
theorem jb_is_flat (G : Gs P K mg)  {f : Addr} {cdv : Value} {A : Around} {outer : List PySem.Env} {s : Shared} {H : Hp} {E : XK} (hr : Room 0 (A.deeper (envOfC ("is_flat" : Str) (defScope st_is_flat) s.heap.objs.size f cdv))) :
    JB (cxOf (L2N.CX P w) P w K mg base [("form" : Str), ("coefficient" : Str)] ("is_flat" : Str) (defScope st_is_flat) f cdv A outer s H E) (wcE E) (defBody st_is_flat) m_is_flat :=
  (jb_one (js_ret (je_callB (cad_all rfl) rfl G.free_all bt_all (ja_cons (je_lc [(("coefficient" : Str), 1)] rfl rfl sc_is_flat.nd (ji_seq (je_sl sld (je_var 0) (jo_part je_int) jo_no)) (blkOk_by (N := [("form" : Str), ("coefficient" : Str)]) (sc := defScope st_is_flat) (own := [(("coefficient" : Str), 1)]) (by decide +kernel)) (fun _ _ _ _ _ => (jgw_name (i := 1) sc_is_flat.nd rfl (by decide))) (fun _ _ _ _ _ => jts_nil) (fun _ _ _ _ _ => (je_cmp (opd_eq (huR hr)) (je_var 1) (je_kd G.const_ZERO rfl) rfl))) ja_nil))))
theorem d_is_flat (G : Gs P K mg)  (gm : mg ("is_flat" : Str) = some (.ref (He.fAd K (("is_flat" : Str), none)))) {fd : FuncData} (F : FunD K ("is_flat" : Str) ("is_flat" : Str) (defArgs st_is_flat) (defBody st_is_flat) (defScope st_is_flat) [] [] (He.fAd K (("is_flat" : Str), none)) fd) : DefOk false P w K mg base ("is_flat" : Str) [] 1 g_is_flat :=
  ⟨_, gm, F.kp, rn_pos (hot := false) (def_ok F sc_is_flat fun cdv A outer s H E hr => jb_is_flat G  hr) rfl (F.bindsN fun _ _ _ _ _ _ us hl => match us, hl with | [_], _ => rfl)⟩
theorem jb__law_truth_is (G : Gs P K mg)  {f : Addr} {cdv : Value} {A : Around} {outer : List PySem.Env} {s : Shared} {H : Hp} {E : XK} (hr : Room 0 (A.deeper (envOfC ("_law_truth_is" : Str) (defScope st__law_truth_is) s.heap.objs.size f cdv))) :
    JB (cxOf (L2N.CX P w) P w K mg base [("answer" : Str), ("due" : Str)] ("_law_truth_is" : Str) (defScope st__law_truth_is) f cdv A outer s H E) (wcE E) (defBody st__law_truth_is) m__law_truth_is :=
  (jb_one (js_ret (je_and (je_isi rfl G.free_isinstance rfl G.free_bool bt_bool (by decide) (je_var 0)) (je_one (je_cmp (opd_eq (huR hr)) (je_var 0) (je_var 1) rfl)))))
theorem d__law_truth_is (G : Gs P K mg)  (gm : mg ("_law_truth_is" : Str) = some (.ref (He.fAd K (("_law_truth_is" : Str), none)))) {fd : FuncData} (F : FunD K ("_law_truth_is" : Str) ("_law_truth_is" : Str) (defArgs st__law_truth_is) (defBody st__law_truth_is) (defScope st__law_truth_is) [] [] (He.fAd K (("_law_truth_is" : Str), none)) fd) : DefOk false P w K mg base ("_law_truth_is" : Str) [] 1 g__law_truth_is :=
  ⟨_, gm, F.kp, rn_pos (hot := false) (def_ok F sc__law_truth_is fun cdv A outer s H E hr => jb__law_truth_is G  hr) rfl (F.bindsN fun _ _ _ _ _ _ us hl => match us, hl with | [_, _], _ => rfl)⟩
theorem jb__law_flat (G : Gs P K mg)  {f : Addr} {cdv : Value} {A : Around} {outer : List PySem.Env} {s : Shared} {H : Hp} {E : XK} (hr : Room 0 (A.deeper (envOfC ("_law_flat" : Str) (defScope st__law_flat) s.heap.objs.size f cdv))) :
    JB (cxOf (L2N.CX P w) P w K mg base [("shape" : Str), ("a" : Str)] ("_law_flat" : Str) (defScope st__law_flat) f cdv A outer s H E) (wcE E) (defBody st__law_flat) m__law_flat :=
  (jb_cons (js_for (L2.passes_of rfl) rfl (je_sl sld (je_var 0) (jo_part je_int) jo_no) (jg_name (i := 1) sc__law_flat.nd rfl (Or.inl rfl)) (jb_one (js_if (jt_cmp (opd_ne (huR hr)) (je_ix ixd (je_var 1) je_int) je_int rfl) (jb_one (js_ret je_bl)) jb_nil)))
  (jb_one (js_ret je_bl)))
theorem d__law_flat (G : Gs P K mg)  (gm : mg ("_law_flat" : Str) = some (.ref (He.fAd K (("_law_flat" : Str), none)))) {fd : FuncData} (F : FunD K ("_law_flat" : Str) ("_law_flat" : Str) (defArgs st__law_flat) (defBody st__law_flat) (defScope st__law_flat) [] [] (He.fAd K (("_law_flat" : Str), none)) fd) : DefOk false P w K mg base ("_law_flat" : Str) [] 1 g__law_flat :=
  ⟨_, gm, F.kp, rn_pos (hot := false) (def_ok F sc__law_flat fun cdv A outer s H E hr => jb__law_flat G  hr) rfl (F.bindsN fun _ _ _ _ _ _ us hl => match us, hl with | [_], _ => rfl)⟩
theorem jb__law_kind_right (G : Gs P K mg) (d_is_form : DefOk false P w K mg base ("is_form" : Str) [] 3 g_is_form) (d_is_flat : DefOk false P w K mg base ("is_flat" : Str) [] 1 g_is_flat) (d__law_take : DefOk false P w K mg base ("_law_take" : Str) [] 2 g__law_take) (d__law_truth_is : DefOk false P w K mg base ("_law_truth_is" : Str) [] 1 g__law_truth_is) (d__law_flat : DefOk false P w K mg base ("_law_flat" : Str) [] 1 g__law_flat) {f : Addr} {cdv : Value} {A : Around} {outer : List PySem.Env} {s : Shared} {H : Hp} {E : XK} (hr : Room 3 (A.deeper (envOfC ("_law_kind_right" : Str) (defScope st__law_kind_right) s.heap.objs.size f cdv))) :
    JB (cxOf (L2N.CX P w) P w K mg base [("bag" : Str), ("shape" : Str), ("wide" : Str), ("other" : Str), ("at" : Str), ("factor" : Str), ("a" : Str), ("strange" : Str), ("thing" : Str)] ("_law_kind_right" : Str) (defScope st__law_kind_right) f cdv A outer s H E) (wcE E) (defBody st__law_kind_right) m__law_kind_right :=
  (jb_cons (js_if (PW.pt (jw_or (jt_not (jt_tru (je_call d__law_truth_is (hr.mono (by decide)) (L2N.takes_of rfl rfl rfl rfl) rfl (ja_cons (je_call d_is_form (hr.mono (by decide)) (L2N.takes_of rfl rfl rfl rfl) rfl (ja_cons (je_var 1) (ja_cons (je_var 2) ja_nil))) (ja_cons je_bl ja_nil))))) (jw_or1 (jt_not (jt_tru (je_call d__law_truth_is (hr.mono (by decide)) (L2N.takes_of rfl rfl rfl rfl) rfl (ja_cons (je_call d_is_flat (hr.mono (by decide)) (L2N.takes_of rfl rfl rfl rfl) rfl (ja_cons (je_var 1) ja_nil)) (ja_cons (je_call d__law_flat (hr.mono (by decide)) (L2N.takes_of rfl rfl rfl rfl) rfl (ja_cons (je_var 1) ja_nil)) ja_nil)))))))) (jb_one (js_ret je_bl)) jb_nil)
  (jb_cons (js_for (L2.passes_of rfl) rfl (je_lst (ja_cons (je_op opd_add (je_var 2) je_int) (ja_cons (je_op opd_add (je_var 2) je_int) (ja_cons (je_op opd_sub (je_var 2) je_int) ja_nil))) (flen_cons (flen_cons (flen_cons flen_nil)))) (jg_name (i := 3) sc__law_kind_right.nd rfl (Or.inl rfl)) (jb_one (js_if (PW.pt (jw_and (jt_cmp opd_ge (je_var 3) je_int rfl) (jw_and1 (jt_not (jt_tru (je_call d__law_truth_is (hr.mono (by decide)) (L2N.takes_of rfl rfl rfl rfl) rfl (ja_cons (je_call d_is_form (hr.mono (by decide)) (L2N.takes_of rfl rfl rfl rfl) rfl (ja_cons (je_var 1) (ja_cons (je_var 3) ja_nil))) (ja_cons je_bl ja_nil)))))))) (jb_one (js_ret je_bl)) jb_nil)))
  (jb_cons (js_set (i := 4) sc__law_kind_right.nd rfl (Or.inl rfl) (je_call d__law_take (hr.mono (by decide)) (L2N.takes_of rfl rfl rfl rfl) rfl (ja_cons (je_var 0) (ja_cons (je_op opd_add (je_var 2) je_int) ja_nil))))
  (jb_cons (js_set (i := 5) sc__law_kind_right.nd rfl (Or.inl rfl) (je_op opd_add je_int (je_call d__law_take (hr.mono (by decide)) (L2N.takes_of rfl rfl rfl rfl) rfl (ja_cons (je_var 0) (ja_cons je_int ja_nil)))))
  (jb_cons (js_set (i := 6) sc__law_kind_right.nd rfl (Or.inl rfl) (je_ix ixd (je_var 1) (je_var 4)))
  (jb_cons (js_set (i := 7) sc__law_kind_right.nd rfl (Or.inl rfl) (je_lst (ja_cons (je_tup (ja_cons (je_op opd_mul (je_ix ixd (je_var 6) je_int) (je_var 5)) (ja_cons (je_op opd_mul (je_ix ixd (je_var 6) je_int) (je_var 5)) ja_nil)) (flen_cons (flen_cons flen_nil))) (ja_cons (je_tup (ja_cons (je_ix ixd (je_var 6) je_int) (ja_cons (je_un und_neg (je_ix ixd (je_var 6) je_int)) ja_nil)) (flen_cons (flen_cons flen_nil))) (ja_cons (je_tup (ja_cons (je_ix ixd (je_var 6) je_int) (ja_cons je_int ja_nil)) (flen_cons (flen_cons flen_nil))) (ja_cons (je_ix ixd (je_var 6) je_int) (ja_cons (je_lst (ja_cons (je_ix ixd (je_var 6) je_int) (ja_cons (je_ix ixd (je_var 6) je_int) ja_nil)) (flen_cons (flen_cons flen_nil))) ja_nil))))) (flen_cons (flen_cons (flen_cons (flen_cons (flen_cons flen_nil)))))))
  (jb_cons (js_for (L2.passes_of rfl) rfl (je_op opd_add (je_var 7) (je_lst (ja_cons (je_tup (ja_cons je_bl (ja_cons (je_ix ixd (je_var 6) je_int) ja_nil)) (flen_cons (flen_cons flen_nil))) (ja_cons je_non (ja_cons (je_tup (ja_cons (je_var 6) ja_nil) (flen_cons flen_nil)) ja_nil))) (flen_cons (flen_cons (flen_cons flen_nil))))) (jg_name (i := 8) sc__law_kind_right.nd rfl (Or.inl rfl)) (jb_one (js_if (jt_not (jt_tru (je_call d__law_truth_is (hr.mono (by decide)) (L2N.takes_of rfl rfl rfl rfl) rfl (ja_cons (je_call d_is_form (hr.mono (by decide)) (L2N.takes_of rfl rfl rfl rfl) rfl (ja_cons (je_op opd_add (je_op opd_add (je_sl sld (je_var 1) jo_no (jo_part (je_var 4))) (je_tup (ja_cons (je_var 8) ja_nil) (flen_cons flen_nil))) (je_sl sld (je_var 1) (jo_part (je_op opd_add (je_var 4) je_int)) jo_no)) (ja_cons (je_var 2) ja_nil))) (ja_cons je_bl ja_nil))))) (jb_one (js_ret je_bl)) jb_nil)))
  (jb_cons (js_for (L2.passes_of rfl) rfl (je_lst (ja_cons (je_callTy cad_list rfl G.free_list bt_list (ja_cons (je_var 1) ja_nil)) (ja_cons (je_op opd_add (je_var 1) (je_tup (ja_cons (je_tup (ja_cons je_int (ja_cons je_int ja_nil)) (flen_cons (flen_cons flen_nil))) ja_nil) (flen_cons flen_nil))) (ja_cons (je_sl sld (je_var 1) jo_no (jo_part (je_un und_neg je_int))) (ja_cons (je_tup ja_nil flen_nil) (ja_cons (je_var 6) (ja_cons je_non (ja_cons (je_var 2) ja_nil))))))) (flen_cons (flen_cons (flen_cons (flen_cons (flen_cons (flen_cons (flen_cons flen_nil)))))))) (jg_name (i := 8) sc__law_kind_right.nd rfl (Or.inl rfl)) (jb_one (js_if (jt_not (jt_tru (je_call d__law_truth_is (hr.mono (by decide)) (L2N.takes_of rfl rfl rfl rfl) rfl (ja_cons (je_call d_is_form (hr.mono (by decide)) (L2N.takes_of rfl rfl rfl rfl) rfl (ja_cons (je_var 8) (ja_cons (je_var 2) ja_nil))) (ja_cons je_bl ja_nil))))) (jb_one (js_ret je_bl)) jb_nil)))
  (jb_one (js_ret je_bl))))))))))
theorem d__law_kind_right (G : Gs P K mg) (d_is_form : DefOk false P w K mg base ("is_form" : Str) [] 3 g_is_form) (d_is_flat : DefOk false P w K mg base ("is_flat" : Str) [] 1 g_is_flat) (d__law_take : DefOk false P w K mg base ("_law_take" : Str) [] 2 g__law_take) (d__law_truth_is : DefOk false P w K mg base ("_law_truth_is" : Str) [] 1 g__law_truth_is) (d__law_flat : DefOk false P w K mg base ("_law_flat" : Str) [] 1 g__law_flat) (gm : mg ("_law_kind_right" : Str) = some (.ref (He.fAd K (("_law_kind_right" : Str), none)))) {fd : FuncData} (F : FunD K ("_law_kind_right" : Str) ("_law_kind_right" : Str) (defArgs st__law_kind_right) (defBody st__law_kind_right) (defScope st__law_kind_right) [] [] (He.fAd K (("_law_kind_right" : Str), none)) fd) : DefOk false P w K mg base ("_law_kind_right" : Str) [] 4 g__law_kind_right :=
  ⟨_, gm, F.kp, rn_pos (hot := false) (def_ok F sc__law_kind_right fun cdv A outer s H E hr => jb__law_kind_right G d_is_form d_is_flat d__law_take d__law_truth_is d__law_flat hr) rfl (F.bindsN fun _ _ _ _ _ _ us hl => match us, hl with | [_, _, _], _ => rfl)⟩
theorem jb__law_form_refused (G : Gs P K mg) (d_value_at : DefOk false P w K mg base ("value_at" : Str) [] 3 g_value_at) (dh__law_form_is : DefOk true P w K mg base ("_law_form_is" : Str) [] 3 g__law_form_is) {f : Addr} {cdv : Value} {A : Around} {outer : List PySem.Env} {s : Shared} {H : Hp} {E : XK} (hr : Room 3 (A.deeper (envOfC ("_law_form_refused" : Str) (defScope st__law_form_refused) s.heap.objs.size f cdv))) :
    JB (cxOf (L2N.CX P w) P w K mg base [("shape" : Str), ("point" : Str), ("e" : Str)] ("_law_form_refused" : Str) (defScope st__law_form_refused) f cdv A outer s H E) (wcE E) (defBody st__law_form_refused) m__law_form_refused :=
  (jb_cons (js_try_as (i := 2) rfl rfl sc__law_form_refused.nd rfl rfl ⟨rfl, by decide, .inl G.glo_FitError⟩ (L2N.takes_of rfl rfl rfl rfl) G.tx_FitError (fun WB pn xe tkT hpT => (jb_one (js_expr (je_call d_value_at (hr.mono (by decide)) tkT rfl (ja_cons (je_var 0) (ja_cons (je_var 1) ja_nil)))))) (fun e k a Ca dx oe pn hm hz hd => (jb_cons (js_if (PW.pt (jw_or (jt_tru (je_isX ⟨hm, hz, hd, List.mem_cons_self, List.mem_cons_of_mem _ List.mem_cons_self⟩ G.ti_BadNumber (pe_glob (X := _) (v := .ref _) rfl G.glo_BadNumber rfl) (fun u h => h) rfl G.free_isinstance (je_var 2))) (jw_or1 (jt_tru (je_isX ⟨hm, hz, hd, List.mem_cons_self, List.mem_cons_of_mem _ List.mem_cons_self⟩ G.ti_BadText (pe_glob (X := _) (v := .ref _) rfl G.glo_BadText rfl) (fun u h => h) rfl G.free_isinstance (je_var 2)))))) (jb_one (js_ret je_bl)) jb_nil)
  (jb_cons (js_if (PW.pt (jw_or (jt_tru (je_isX ⟨hm, hz, hd, List.mem_cons_self, List.mem_cons_of_mem _ List.mem_cons_self⟩ G.ti_BadSpan (pe_glob (X := _) (v := .ref _) rfl G.glo_BadSpan rfl) (fun u h => h) rfl G.free_isinstance (je_var 2))) (jw_or1 (jt_tru (je_isX ⟨hm, hz, hd, List.mem_cons_self, List.mem_cons_of_mem _ List.mem_cons_self⟩ G.ti_BadPlace (pe_glob (X := _) (v := .ref _) rfl G.glo_BadPlace rfl) (fun u h => h) rfl G.free_isinstance (je_var 2)))))) (jb_one (js_ret je_bl)) jb_nil)
  (jb_cons (js_if (PW.pt (jw_or (jt_not (jt_tru (je_isX ⟨hm, hz, hd, List.mem_cons_self, List.mem_cons_of_mem _ List.mem_cons_self⟩ G.ti_BadForm (pe_glob (X := _) (v := .ref _) rfl G.glo_BadForm rfl) (fun u h => h) rfl G.free_isinstance (je_var 2)))) (jw_or1 (jt_not (jt_tru (je_isX ⟨hm, hz, hd, List.mem_cons_self, List.mem_cons_of_mem _ List.mem_cons_self⟩ G.ti_ValueError (pe_bltn (X := _) (v := .ty "ValueError") rfl G.free_ValueError bt_ValueError rfl) (fun u h => h) rfl G.free_isinstance (je_var 2))))))) (jb_one (js_ret je_bl)) jb_nil)
  (jb_one (js_ret (je_call dh__law_form_is ⟨(roomMk hr (some (.ref a))).mono (by decide), hotSu hz hd⟩ takes_suite rfl (ja_cons (je_xf ⟨hm, hz, hd, List.mem_cons_self, List.mem_cons_of_mem _ List.mem_cons_self⟩ G.fld_form (je_var 2)) (ja_cons (je_var 0) ja_nil))))))))))
  (jb_one (js_ret je_bl)))
theorem d__law_form_refused (G : Gs P K mg) (d_value_at : DefOk false P w K mg base ("value_at" : Str) [] 3 g_value_at) (dh__law_form_is : DefOk true P w K mg base ("_law_form_is" : Str) [] 3 g__law_form_is) (gm : mg ("_law_form_refused" : Str) = some (.ref (He.fAd K (("_law_form_refused" : Str), none)))) {fd : FuncData} (F : FunD K ("_law_form_refused" : Str) ("_law_form_refused" : Str) (defArgs st__law_form_refused) (defBody st__law_form_refused) (defScope st__law_form_refused) [] [] (He.fAd K (("_law_form_refused" : Str), none)) fd) : DefOk false P w K mg base ("_law_form_refused" : Str) [] 4 g__law_form_refused :=
  ⟨_, gm, F.kp, rn_pos (hot := false) (def_ok F sc__law_form_refused fun cdv A outer s H E hr => jb__law_form_refused G d_value_at dh__law_form_is hr) rfl (F.bindsN fun _ _ _ _ _ _ us hl => match us, hl with | [_, _], _ => rfl)⟩
theorem jb__law_lengths_right (G : Gs P K mg) (d__law_form_refused : DefOk false P w K mg base ("_law_form_refused" : Str) [] 4 g__law_form_refused) {f : Addr} {cdv : Value} {A : Around} {outer : List PySem.Env} {s : Shared} {H : Hp} {E : XK} (hr : Room 4 (A.deeper (envOfC ("_law_lengths_right" : Str) (defScope st__law_lengths_right) s.heap.objs.size f cdv))) :
    JB (cxOf (L2N.CX P w) P w K mg base [("shape" : Str), ("point" : Str), ("a" : Str), ("more" : Str), ("less" : Str)] ("_law_lengths_right" : Str) (defScope st__law_lengths_right) f cdv A outer s H E) (wcE E) (defBody st__law_lengths_right) m__law_lengths_right :=
  (jb_cons (js_for (L2.passes_of rfl) rfl (je_lst (ja_cons je_int (ja_cons je_int (ja_cons je_int ja_nil))) (flen_cons (flen_cons (flen_cons flen_nil)))) (jg_name (i := 3) sc__law_lengths_right.nd rfl (Or.inl rfl)) (jb_one (js_if (jt_not (jt_tru (je_call d__law_form_refused (hr.mono (by decide)) (L2N.takes_of rfl rfl rfl rfl) rfl (ja_cons (je_var 0) (ja_cons (je_op opd_add (je_var 1) (je_op opd_mulT (je_tup (ja_cons (je_var 2) ja_nil) (flen_cons flen_nil)) (je_var 3))) ja_nil))))) (jb_one (js_ret je_bl)) jb_nil)))
  (jb_cons (js_forR1 (L2.passes_of rfl) rfl rfl G.free_range (ja_cons (je_callB cad_len rfl G.free_len bt_len (ja_cons (je_var 1) ja_nil)) ja_nil) (jg_name (i := 4) sc__law_lengths_right.nd rfl (Or.inl rfl)) (jb_one (js_if (jt_not (jt_tru (je_call d__law_form_refused (hr.mono (by decide)) (L2N.takes_of rfl rfl rfl rfl) rfl (ja_cons (je_var 0) (ja_cons (je_sl sld (je_var 1) jo_no (jo_part (je_var 4))) ja_nil))))) (jb_one (js_ret je_bl)) jb_nil)))
  (jb_one (js_ret je_bl))))
theorem d__law_lengths_right (G : Gs P K mg) (d__law_form_refused : DefOk false P w K mg base ("_law_form_refused" : Str) [] 4 g__law_form_refused) (gm : mg ("_law_lengths_right" : Str) = some (.ref (He.fAd K (("_law_lengths_right" : Str), none)))) {fd : FuncData} (F : FunD K ("_law_lengths_right" : Str) ("_law_lengths_right" : Str) (defArgs st__law_lengths_right) (defBody st__law_lengths_right) (defScope st__law_lengths_right) [] [] (He.fAd K (("_law_lengths_right" : Str), none)) fd) : DefOk false P w K mg base ("_law_lengths_right" : Str) [] 5 g__law_lengths_right :=
  ⟨_, gm, F.kp, rn_pos (hot := false) (def_ok F sc__law_lengths_right fun cdv A outer s H E hr => jb__law_lengths_right G d__law_form_refused hr) rfl (F.bindsN fun _ _ _ _ _ _ us hl => match us, hl with | [_, _, _], _ => rfl)⟩
theorem jb_flat (G : Gs P K mg)  {f : Addr} {cdv : Value} {A : Around} {outer : List PySem.Env} {s : Shared} {H : Hp} {E : XK} (hr : Room 0 (A.deeper (envOfC ("flat" : Str) (defScope st_flat) s.heap.objs.size f cdv))) :
    JB (cxOf (L2N.CX P w) P w K mg base [("number" : Str), ("size" : Str)] ("flat" : Str) (defScope st_flat) f cdv A outer s H E) (wcE E) (defBody st_flat) m_flat :=
  (jb_one (js_ret (je_op opd_add (je_tup (ja_cons (je_var 0) ja_nil) (flen_cons flen_nil)) (je_op opd_mulT (je_tup (ja_cons (je_kd G.const_ZERO rfl) ja_nil) (flen_cons flen_nil)) (je_var 1)))))
theorem d_flat_ksize_number_0 (G : Gs P K mg)  (gm : mg ("flat" : Str) = some (.ref (He.fAd K (("flat" : Str), none)))) {fd : FuncData} (F : FunD K ("flat" : Str) ("flat" : Str) (defArgs st_flat) (defBody st_flat) (defScope st_flat) [] [] (He.fAd K (("flat" : Str), none)) fd) : DefOk false P w K mg base ("flat" : Str) [("size" : Str), ("number" : Str)] 1 g_flat_ksize_number_0 := by
  obtain ⟨dus, hv, hb⟩ := kw_bindsN (np := 2) (ks := [("size" : Str), ("number" : Str)]) (sel := [1, 0]) (ps := [("number" : Str), ("size" : Str)]) F (fun _ _ _ _ _ _ us ws h1 h2 => by
    have h0 : us.length = 0 := by
      simp only [List.length_cons, List.length_nil] at h2
      omega
    match us, ws, h0, h2 with
    | [], [_, _], _, _ => rfl)
  exact ⟨_, gm, F.kp, rn_kw (hot := false) (def_ok F sc_flat fun cdv A outer s H E hr => jb_flat G  hr) rfl (fun _ _ _ => rfl) hv hb⟩
theorem d_flat (G : Gs P K mg)  (gm : mg ("flat" : Str) = some (.ref (He.fAd K (("flat" : Str), none)))) {fd : FuncData} (F : FunD K ("flat" : Str) ("flat" : Str) (defArgs st_flat) (defBody st_flat) (defScope st_flat) [] [] (He.fAd K (("flat" : Str), none)) fd) : DefOk false P w K mg base ("flat" : Str) [] 1 g_flat :=
  ⟨_, gm, F.kp, rn_pos (hot := false) (def_ok F sc_flat fun cdv A outer s H E hr => jb_flat G  hr) rfl (F.bindsN fun _ _ _ _ _ _ us hl => match us, hl with | [_, _], _ => rfl)⟩
theorem jb_parameter (G : Gs P K mg)  {f : Addr} {cdv : Value} {A : Around} {outer : List PySem.Env} {s : Shared} {H : Hp} {E : XK} (hr : Room 0 (A.deeper (envOfC ("parameter" : Str) (defScope st_parameter) s.heap.objs.size f cdv))) :
    JB (cxOf (L2N.CX P w) P w K mg base [("index" : Str), ("size" : Str)] ("parameter" : Str) (defScope st_parameter) f cdv A outer s H E) (wcE E) (defBody st_parameter) m_parameter :=
  (jb_cons (js_if (PW.pt (jw_or (jt_cmp opd_lt (je_var 0) je_int rfl) (jw_or1 (jt_cmp opd_gt (je_var 0) (je_var 1) rfl)))) (jb_one (js_raise rfl G.exc_BadPlace fn_BadPlace hr (L2N.takes_of rfl rfl rfl rfl) (ja_cons (je_var 0) ja_nil) rfl)) jb_nil)
  (jb_one (js_ret (je_op opd_add (je_op opd_add (je_op opd_mulT (je_tup (ja_cons (je_kd G.const_ZERO rfl) ja_nil) (flen_cons flen_nil)) (je_var 0)) (je_tup (ja_cons (je_kd G.const_ONE rfl) ja_nil) (flen_cons flen_nil))) (je_op opd_mulT (je_tup (ja_cons (je_kd G.const_ZERO rfl) ja_nil) (flen_cons flen_nil)) (je_op opd_sub (je_var 1) (je_var 0)))))))
theorem d_parameter_ksize_index_0 (G : Gs P K mg)  (gm : mg ("parameter" : Str) = some (.ref (He.fAd K (("parameter" : Str), none)))) {fd : FuncData} (F : FunD K ("parameter" : Str) ("parameter" : Str) (defArgs st_parameter) (defBody st_parameter) (defScope st_parameter) [] [] (He.fAd K (("parameter" : Str), none)) fd) : DefOk false P w K mg base ("parameter" : Str) [("size" : Str), ("index" : Str)] 1 g_parameter_ksize_index_0 := by
  obtain ⟨dus, hv, hb⟩ := kw_bindsN (np := 2) (ks := [("size" : Str), ("index" : Str)]) (sel := [1, 0]) (ps := [("index" : Str), ("size" : Str)]) F (fun _ _ _ _ _ _ us ws h1 h2 => by
    have h0 : us.length = 0 := by
      simp only [List.length_cons, List.length_nil] at h2
      omega
    match us, ws, h0, h2 with
    | [], [_, _], _, _ => rfl)
  exact ⟨_, gm, F.kp, rn_kw (hot := false) (def_ok F sc_parameter fun cdv A outer s H E hr => jb_parameter G  hr) rfl (fun _ _ _ => rfl) hv hb⟩
theorem d_parameter (G : Gs P K mg)  (gm : mg ("parameter" : Str) = some (.ref (He.fAd K (("parameter" : Str), none)))) {fd : FuncData} (F : FunD K ("parameter" : Str) ("parameter" : Str) (defArgs st_parameter) (defBody st_parameter) (defScope st_parameter) [] [] (He.fAd K (("parameter" : Str), none)) fd) : DefOk false P w K mg base ("parameter" : Str) [] 1 g_parameter :=
  ⟨_, gm, F.kp, rn_pos (hot := false) (def_ok F sc_parameter fun cdv A outer s H E hr => jb_parameter G  hr) rfl (F.bindsN fun _ _ _ _ _ _ us hl => match us, hl with | [_, _], _ => rfl)⟩
theorem jb__law_place_refused (G : Gs P K mg) (d_parameter : DefOk false P w K mg base ("parameter" : Str) [] 1 g_parameter) (dh__law_integer : DefOk true P w K mg base ("_law_integer" : Str) [] 1 g__law_integer) {f : Addr} {cdv : Value} {A : Around} {outer : List PySem.Env} {s : Shared} {H : Hp} {E : XK} (hr : Room 1 (A.deeper (envOfC ("_law_place_refused" : Str) (defScope st__law_place_refused) s.heap.objs.size f cdv))) :
    JB (cxOf (L2N.CX P w) P w K mg base [("at" : Str), ("wide" : Str), ("e" : Str)] ("_law_place_refused" : Str) (defScope st__law_place_refused) f cdv A outer s H E) (wcE E) (defBody st__law_place_refused) m__law_place_refused :=
  (jb_cons (js_try_as (i := 2) rfl rfl sc__law_place_refused.nd rfl rfl ⟨rfl, by decide, .inl G.glo_BadPlace⟩ (L2N.takes_of rfl rfl rfl rfl) G.tx_BadPlace (fun WB pn xe tkT hpT => (jb_one (js_expr (je_call d_parameter (hr.mono (by decide)) tkT rfl (ja_cons (je_var 0) (ja_cons (je_var 1) ja_nil)))))) (fun e k a Ca dx oe pn hm hz hd => (jb_cons (js_if (PW.pt (jw_or (jt_tru (je_isX ⟨hm, hz, hd, List.mem_cons_self, List.mem_cons_of_mem _ List.mem_cons_self⟩ G.ti_BadNumber (pe_glob (X := _) (v := .ref _) rfl G.glo_BadNumber rfl) (fun u h => h) rfl G.free_isinstance (je_var 2))) (jw_or1 (jt_tru (je_isX ⟨hm, hz, hd, List.mem_cons_self, List.mem_cons_of_mem _ List.mem_cons_self⟩ G.ti_BadText (pe_glob (X := _) (v := .ref _) rfl G.glo_BadText rfl) (fun u h => h) rfl G.free_isinstance (je_var 2)))))) (jb_one (js_ret je_bl)) jb_nil)
  (jb_cons (js_if (PW.pt (jw_or (jt_tru (je_isX ⟨hm, hz, hd, List.mem_cons_self, List.mem_cons_of_mem _ List.mem_cons_self⟩ G.ti_BadSpan (pe_glob (X := _) (v := .ref _) rfl G.glo_BadSpan rfl) (fun u h => h) rfl G.free_isinstance (je_var 2))) (jw_or1 (jt_tru (je_isX ⟨hm, hz, hd, List.mem_cons_self, List.mem_cons_of_mem _ List.mem_cons_self⟩ G.ti_BadForm (pe_glob (X := _) (v := .ref _) rfl G.glo_BadForm rfl) (fun u h => h) rfl G.free_isinstance (je_var 2)))))) (jb_one (js_ret je_bl)) jb_nil)
  (jb_cons (js_if (PW.pt (jw_or (jt_not (jt_tru (je_isX ⟨hm, hz, hd, List.mem_cons_self, List.mem_cons_of_mem _ List.mem_cons_self⟩ G.ti_FitError (pe_glob (X := _) (v := .ref _) rfl G.glo_FitError rfl) (fun u h => h) rfl G.free_isinstance (je_var 2)))) (jw_or1 (jt_not (jt_tru (je_isX ⟨hm, hz, hd, List.mem_cons_self, List.mem_cons_of_mem _ List.mem_cons_self⟩ G.ti_ValueError (pe_bltn (X := _) (v := .ty "ValueError") rfl G.free_ValueError bt_ValueError rfl) (fun u h => h) rfl G.free_isinstance (je_var 2))))))) (jb_one (js_ret je_bl)) jb_nil)
  (jb_one (js_ret (je_and (je_call dh__law_integer ⟨(roomMk hr (some (.ref a))).mono (by decide), hotSu hz hd⟩ takes_suite rfl (ja_cons (je_xf ⟨hm, hz, hd, List.mem_cons_self, List.mem_cons_of_mem _ List.mem_cons_self⟩ G.fld_place (je_var 2)) ja_nil)) (je_one (je_cmp (opd_eq (huH (roomMk hr (some (.ref a))))) (je_xf ⟨hm, hz, hd, List.mem_cons_self, List.mem_cons_of_mem _ List.mem_cons_self⟩ G.fld_place (je_var 2)) (je_var 0) rfl))))))))))
  (jb_one (js_ret je_bl)))
theorem d__law_place_refused (G : Gs P K mg) (d_parameter : DefOk false P w K mg base ("parameter" : Str) [] 1 g_parameter) (dh__law_integer : DefOk true P w K mg base ("_law_integer" : Str) [] 1 g__law_integer) (gm : mg ("_law_place_refused" : Str) = some (.ref (He.fAd K (("_law_place_refused" : Str), none)))) {fd : FuncData} (F : FunD K ("_law_place_refused" : Str) ("_law_place_refused" : Str) (defArgs st__law_place_refused) (defBody st__law_place_refused) (defScope st__law_place_refused) [] [] (He.fAd K (("_law_place_refused" : Str), none)) fd) : DefOk false P w K mg base ("_law_place_refused" : Str) [] 2 g__law_place_refused :=
  ⟨_, gm, F.kp, rn_pos (hot := false) (def_ok F sc__law_place_refused fun cdv A outer s H E hr => jb__law_place_refused G d_parameter dh__law_integer hr) rfl (F.bindsN fun _ _ _ _ _ _ us hl => match us, hl with | [_, _], _ => rfl)⟩
theorem jb__law_plain_right (G : Gs P K mg) (d_flat_ksize_number_0 : DefOk false P w K mg base ("flat" : Str) [("size" : Str), ("number" : Str)] 1 g_flat_ksize_number_0) (d_flat : DefOk false P w K mg base ("flat" : Str) [] 1 g_flat) (d_parameter_ksize_index_0 : DefOk false P w K mg base ("parameter" : Str) [("size" : Str), ("index" : Str)] 1 g_parameter_ksize_index_0) (d_parameter : DefOk false P w K mg base ("parameter" : Str) [] 1 g_parameter) (d_is_flat : DefOk false P w K mg base ("is_flat" : Str) [] 1 g_is_flat) (d__law_form_is : DefOk false P w K mg base ("_law_form_is" : Str) [] 3 g__law_form_is) (d__law_truth_is : DefOk false P w K mg base ("_law_truth_is" : Str) [] 1 g__law_truth_is) (d__law_agrees : DefOk false P w K mg base ("_law_agrees" : Str) [] 5 g__law_agrees) (d__law_place_refused : DefOk false P w K mg base ("_law_place_refused" : Str) [] 2 g__law_place_refused) {f : Addr} {cdv : Value} {A : Around} {outer : List PySem.Env} {s : Shared} {H : Hp} {E : XK} (hr : Room 5 (A.deeper (envOfC ("_law_plain_right" : Str) (defScope st__law_plain_right) s.heap.objs.size f cdv))) :
    JB (cxOf (L2N.CX P w) P w K mg base [("a" : Str), ("point" : Str), ("wide" : Str), ("due" : Str), ("k" : Str), ("at" : Str)] ("_law_plain_right" : Str) (defScope st__law_plain_right) f cdv A outer s H E) (wcE E) (defBody st__law_plain_right) m__law_plain_right :=
  (jb_cons (js_set (i := 2) sc__law_plain_right.nd rfl (Or.inl rfl) (je_callB cad_len rfl G.free_len bt_len (ja_cons (je_var 1) ja_nil)))
  (jb_cons (js_set (i := 3) sc__law_plain_right.nd rfl (Or.inl rfl) (je_op opd_add (je_tup (ja_cons (je_var 0) ja_nil) (flen_cons flen_nil)) (je_op opd_mulT (je_tup (ja_cons (je_tup (ja_cons je_int (ja_cons je_int ja_nil)) (flen_cons (flen_cons flen_nil))) ja_nil) (flen_cons flen_nil)) (je_var 2))))
  (jb_cons (js_if (PW.pt (jw_or (jt_not (jt_tru (je_call d__law_agrees (hr.mono (by decide)) (L2N.takes_of rfl rfl rfl rfl) rfl (ja_cons (je_call d_flat (hr.mono (by decide)) (L2N.takes_of rfl rfl rfl rfl) rfl (ja_cons (je_var 0) (ja_cons (je_var 2) ja_nil))) (ja_cons (je_var 3) (ja_cons (je_var 1) ja_nil)))))) (jw_or1 (jt_not (jt_tru (je_call d__law_form_is (hr.mono (by decide)) (L2N.takes_of rfl rfl rfl rfl) rfl (ja_cons (je_callK0 d_flat_ksize_number_0 (hr.mono (by decide)) (L2N.takes_of rfl rfl rfl rfl) rfl (jk_cons (je_var 2) (jk_cons (je_var 0) jk_nil)) (flen_cons (flen_cons flen_nil))) (ja_cons (je_var 3) ja_nil)))))))) (jb_one (js_ret je_bl)) jb_nil)
  (jb_cons (js_if (jt_not (jt_tru (je_call d__law_truth_is (hr.mono (by decide)) (L2N.takes_of rfl rfl rfl rfl) rfl (ja_cons (je_call d_is_flat (hr.mono (by decide)) (L2N.takes_of rfl rfl rfl rfl) rfl (ja_cons (je_var 3) ja_nil)) (ja_cons je_bl ja_nil))))) (jb_one (js_ret je_bl)) jb_nil)
  (jb_cons (js_forR1 (L2.passes_of rfl) rfl rfl G.free_range (ja_cons (je_var 2) ja_nil) (jg_name (i := 4) sc__law_plain_right.nd rfl (Or.inl rfl)) (jb_cons (js_set (i := 3) sc__law_plain_right.nd rfl (Or.inl rfl) (je_op opd_add (je_op opd_add (je_op opd_mulT (je_tup (ja_cons (je_tup (ja_cons je_int (ja_cons je_int ja_nil)) (flen_cons (flen_cons flen_nil))) ja_nil) (flen_cons flen_nil)) (je_op opd_add (je_var 4) je_int)) (je_tup (ja_cons (je_tup (ja_cons je_int (ja_cons je_int ja_nil)) (flen_cons (flen_cons flen_nil))) ja_nil) (flen_cons flen_nil))) (je_op opd_mulT (je_tup (ja_cons (je_tup (ja_cons je_int (ja_cons je_int ja_nil)) (flen_cons (flen_cons flen_nil))) ja_nil) (flen_cons flen_nil)) (je_op opd_sub (je_op opd_sub (je_var 2) (je_var 4)) je_int))))
  (jb_cons (js_if (jt_not (jt_tru (je_call d__law_agrees (hr.mono (by decide)) (L2N.takes_of rfl rfl rfl rfl) rfl (ja_cons (je_call d_parameter (hr.mono (by decide)) (L2N.takes_of rfl rfl rfl rfl) rfl (ja_cons (je_op opd_add (je_var 4) je_int) (ja_cons (je_var 2) ja_nil))) (ja_cons (je_var 3) (ja_cons (je_var 1) ja_nil)))))) (jb_one (js_ret je_bl)) jb_nil)
  (jb_cons (js_if (jt_not (jt_tru (je_call d__law_form_is (hr.mono (by decide)) (L2N.takes_of rfl rfl rfl rfl) rfl (ja_cons (je_callK0 d_parameter_ksize_index_0 (hr.mono (by decide)) (L2N.takes_of rfl rfl rfl rfl) rfl (jk_cons (je_var 2) (jk_cons (je_op opd_add (je_var 4) je_int) jk_nil)) (flen_cons (flen_cons flen_nil))) (ja_cons (je_var 3) ja_nil))))) (jb_one (js_ret je_bl)) jb_nil)
  (jb_one (js_if (jt_not (jt_tru (je_call d__law_truth_is (hr.mono (by decide)) (L2N.takes_of rfl rfl rfl rfl) rfl (ja_cons (je_call d_is_flat (hr.mono (by decide)) (L2N.takes_of rfl rfl rfl rfl) rfl (ja_cons (je_var 3) ja_nil)) (ja_cons je_bl ja_nil))))) (jb_one (js_ret je_bl)) jb_nil))))))
  (jb_cons (js_for (L2.passes_of rfl) rfl (je_lst (ja_cons je_int (ja_cons (je_un und_neg je_int) (ja_cons (je_op opd_add (je_var 2) je_int) (ja_cons (je_op opd_add (je_var 2) je_int) ja_nil)))) (flen_cons (flen_cons (flen_cons (flen_cons flen_nil))))) (jg_name (i := 5) sc__law_plain_right.nd rfl (Or.inl rfl)) (jb_one (js_if (jt_not (jt_tru (je_call d__law_place_refused (hr.mono (by decide)) (L2N.takes_of rfl rfl rfl rfl) rfl (ja_cons (je_var 5) (ja_cons (je_var 2) ja_nil))))) (jb_one (js_ret je_bl)) jb_nil)))
  (jb_one (js_ret je_bl))))))))
theorem d__law_plain_right (G : Gs P K mg) (d_flat_ksize_number_0 : DefOk false P w K mg base ("flat" : Str) [("size" : Str), ("number" : Str)] 1 g_flat_ksize_number_0) (d_flat : DefOk false P w K mg base ("flat" : Str) [] 1 g_flat) (d_parameter_ksize_index_0 : DefOk false P w K mg base ("parameter" : Str) [("size" : Str), ("index" : Str)] 1 g_parameter_ksize_index_0) (d_parameter : DefOk false P w K mg base ("parameter" : Str) [] 1 g_parameter) (d_is_flat : DefOk false P w K mg base ("is_flat" : Str) [] 1 g_is_flat) (d__law_form_is : DefOk false P w K mg base ("_law_form_is" : Str) [] 3 g__law_form_is) (d__law_truth_is : DefOk false P w K mg base ("_law_truth_is" : Str) [] 1 g__law_truth_is) (d__law_agrees : DefOk false P w K mg base ("_law_agrees" : Str) [] 5 g__law_agrees) (d__law_place_refused : DefOk false P w K mg base ("_law_place_refused" : Str) [] 2 g__law_place_refused) (gm : mg ("_law_plain_right" : Str) = some (.ref (He.fAd K (("_law_plain_right" : Str), none)))) {fd : FuncData} (F : FunD K ("_law_plain_right" : Str) ("_law_plain_right" : Str) (defArgs st__law_plain_right) (defBody st__law_plain_right) (defScope st__law_plain_right) [] [] (He.fAd K (("_law_plain_right" : Str), none)) fd) : DefOk false P w K mg base ("_law_plain_right" : Str) [] 6 g__law_plain_right :=
  ⟨_, gm, F.kp, rn_pos (hot := false) (def_ok F sc__law_plain_right fun cdv A outer s H E hr => jb__law_plain_right G d_flat_ksize_number_0 d_flat d_parameter_ksize_index_0 d_parameter d_is_flat d__law_form_is d__law_truth_is d__law_agrees d__law_place_refused hr) rfl (F.bindsN fun _ _ _ _ _ _ us hl => match us, hl with | [_, _], _ => rfl)⟩
theorem jb_form_total (G : Gs P K mg) (d_flat : DefOk false P w K mg base ("flat" : Str) [] 1 g_flat) (d_form_plus : DefOk false P w K mg base ("form_plus" : Str) [] 3 g_form_plus) {f : Addr} {cdv : Value} {A : Around} {outer : List PySem.Env} {s : Shared} {H : Hp} {E : XK} (hr : Room 3 (A.deeper (envOfC ("form_total" : Str) (defScope st_form_total) s.heap.objs.size f cdv))) :
    JB (cxOf (L2N.CX P w) P w K mg base [("forms" : Str), ("size" : Str), ("result" : Str), ("form" : Str)] ("form_total" : Str) (defScope st_form_total) f cdv A outer s H E) (wcE E) (defBody st_form_total) m_form_total :=
  (jb_cons (js_set (i := 2) sc_form_total.nd rfl (Or.inl rfl) (je_call d_flat (hr.mono (by decide)) (L2N.takes_of rfl rfl rfl rfl) rfl (ja_cons (je_kd G.const_ZERO rfl) (ja_cons (je_var 1) ja_nil))))
  (jb_cons (js_for (L2.passes_of rfl) rfl (je_var 0) (jg_name (i := 3) sc_form_total.nd rfl (Or.inl rfl)) (jb_one (js_set (i := 2) sc_form_total.nd rfl (Or.inl rfl) (je_call d_form_plus (hr.mono (by decide)) (L2N.takes_of rfl rfl rfl rfl) rfl (ja_cons (je_var 2) (ja_cons (je_var 3) ja_nil))))))
  (jb_one (js_ret (je_var 2)))))
theorem d_form_total (G : Gs P K mg) (d_flat : DefOk false P w K mg base ("flat" : Str) [] 1 g_flat) (d_form_plus : DefOk false P w K mg base ("form_plus" : Str) [] 3 g_form_plus) (gm : mg ("form_total" : Str) = some (.ref (He.fAd K (("form_total" : Str), none)))) {fd : FuncData} (F : FunD K ("form_total" : Str) ("form_total" : Str) (defArgs st_form_total) (defBody st_form_total) (defScope st_form_total) [] [] (He.fAd K (("form_total" : Str), none)) fd) : DefOk false P w K mg base ("form_total" : Str) [] 4 g_form_total :=
  ⟨_, gm, F.kp, rn_pos (hot := false) (def_ok F sc_form_total fun cdv A outer s H E hr => jb_form_total G d_flat d_form_plus hr) rfl (F.bindsN fun _ _ _ _ _ _ us hl => match us, hl with | [_, _], _ => rfl)⟩
theorem jb__law_total_right (G : Gs P K mg) (d_form_total : DefOk false P w K mg base ("form_total" : Str) [] 4 g_form_total) (d__law_take : DefOk false P w K mg base ("_law_take" : Str) [] 2 g__law_take) (d__law_pick : DefOk false P w K mg base ("_law_pick" : Str) [] 3 g__law_pick) (d__law_form_is : DefOk false P w K mg base ("_law_form_is" : Str) [] 3 g__law_form_is) (d__law_forms_sum : DefOk false P w K mg base ("_law_forms_sum" : Str) [] 4 g__law_forms_sum) {f : Addr} {cdv : Value} {A : Around} {outer : List PySem.Env} {s : Shared} {H : Hp} {E : XK} (hr : Room 4 (A.deeper (envOfC ("_law_total_right" : Str) (defScope st__law_total_right) s.heap.objs.size f cdv))) :
    JB (cxOf (L2N.CX P w) P w K mg base [("bag" : Str), ("forms" : Str), ("wide" : Str), ("few" : Str), ("k" : Str), ("due" : Str), ("given" : Str), ("answer" : Str)] ("_law_total_right" : Str) (defScope st__law_total_right) f cdv A outer s H E) (wcE E) (defBody st__law_total_right) m__law_total_right :=
  (jb_cons (js_set (i := 3) sc__law_total_right.nd rfl (Or.inl rfl) (je_lst ja_nil flen_nil))
  (jb_cons (js_forR1 (L2.passes_of rfl) rfl rfl G.free_range (ja_cons (je_call d__law_take (hr.mono (by decide)) (L2N.takes_of rfl rfl rfl rfl) rfl (ja_cons (je_var 0) (ja_cons je_int ja_nil))) ja_nil) (jg_name (i := 4) sc__law_total_right.nd rfl (Or.inl rfl)) (jb_one (js_expr (je_lm PySem.F.slot_list_append PySem.F.type_list_append mtd_append (je_var 3) (ja_cons (je_call d__law_pick (hr.mono (by decide)) (L2N.takes_of rfl rfl rfl rfl) rfl (ja_cons (je_var 0) (ja_cons (je_var 1) ja_nil))) ja_nil)))))
  (jb_cons (js_set (i := 5) sc__law_total_right.nd rfl (Or.inl rfl) (je_call d__law_forms_sum (hr.mono (by decide)) (L2N.takes_of rfl rfl rfl rfl) rfl (ja_cons (je_var 3) (ja_cons (je_var 2) ja_nil))))
  (jb_cons (js_set (i := 6) sc__law_total_right.nd rfl (Or.inl rfl) (je_callTy cad_list rfl G.free_list bt_list (ja_cons (je_var 3) ja_nil)))
  (jb_cons (js_set (i := 7) sc__law_total_right.nd rfl (Or.inl rfl) (je_call d_form_total (hr.mono (by decide)) (L2N.takes_of rfl rfl rfl rfl) rfl (ja_cons (je_var 6) (ja_cons (je_var 2) ja_nil))))
  (jb_cons (js_if (PW.pt (jw_or (jt_not (jt_tru (je_call d__law_form_is (hr.mono (by decide)) (L2N.takes_of rfl rfl rfl rfl) rfl (ja_cons (je_var 7) (ja_cons (je_var 5) ja_nil))))) (jw_or1 (jt_cmp (opd_ne (huR hr)) (je_callB cad_len rfl G.free_len bt_len (ja_cons (je_var 6) ja_nil)) (je_callB cad_len rfl G.free_len bt_len (ja_cons (je_var 3) ja_nil)) rfl)))) (jb_one (js_ret je_bl)) jb_nil)
  (jb_cons (js_forR1 (L2.passes_of rfl) rfl rfl G.free_range (ja_cons (je_callB cad_len rfl G.free_len bt_len (ja_cons (je_var 3) ja_nil)) ja_nil) (jg_name (i := 4) sc__law_total_right.nd rfl (Or.inl rfl)) (jb_one (js_if (jt_not (jt_tru (je_call d__law_form_is (hr.mono (by decide)) (L2N.takes_of rfl rfl rfl rfl) rfl (ja_cons (je_ix ixd (je_var 6) (je_var 4)) (ja_cons (je_ix ixd (je_var 3) (je_var 4)) ja_nil))))) (jb_one (js_ret je_bl)) jb_nil)))
  (jb_cons (js_if (jt_not (jt_tru (je_call d__law_form_is (hr.mono (by decide)) (L2N.takes_of rfl rfl rfl rfl) rfl (ja_cons (je_call d_form_total (hr.mono (by decide)) (L2N.takes_of rfl rfl rfl rfl) rfl (ja_cons (je_callTy cad_tuple rfl G.free_tuple bt_tuple (ja_cons (je_var 3) ja_nil)) (ja_cons (je_var 2) ja_nil))) (ja_cons (je_var 5) ja_nil))))) (jb_one (js_ret je_bl)) jb_nil)
  (jb_one (js_ret (je_call d__law_form_is (hr.mono (by decide)) (L2N.takes_of rfl rfl rfl rfl) rfl (ja_cons (je_call d_form_total (hr.mono (by decide)) (L2N.takes_of rfl rfl rfl rfl) rfl (ja_cons (je_lst ja_nil flen_nil) (ja_cons (je_var 2) ja_nil))) (ja_cons (je_op opd_mulT (je_tup (ja_cons (je_tup (ja_cons je_int (ja_cons je_int ja_nil)) (flen_cons (flen_cons flen_nil))) ja_nil) (flen_cons flen_nil)) (je_op opd_add (je_var 2) je_int)) ja_nil)))))))))))))
theorem d__law_total_right (G : Gs P K mg) (d_form_total : DefOk false P w K mg base ("form_total" : Str) [] 4 g_form_total) (d__law_take : DefOk false P w K mg base ("_law_take" : Str) [] 2 g__law_take) (d__law_pick : DefOk false P w K mg base ("_law_pick" : Str) [] 3 g__law_pick) (d__law_form_is : DefOk false P w K mg base ("_law_form_is" : Str) [] 3 g__law_form_is) (d__law_forms_sum : DefOk false P w K mg base ("_law_forms_sum" : Str) [] 4 g__law_forms_sum) (gm : mg ("_law_total_right" : Str) = some (.ref (He.fAd K (("_law_total_right" : Str), none)))) {fd : FuncData} (F : FunD K ("_law_total_right" : Str) ("_law_total_right" : Str) (defArgs st__law_total_right) (defBody st__law_total_right) (defScope st__law_total_right) [] [] (He.fAd K (("_law_total_right" : Str), none)) fd) : DefOk false P w K mg base ("_law_total_right" : Str) [] 5 g__law_total_right :=
  ⟨_, gm, F.kp, rn_pos (hot := false) (def_ok F sc__law_total_right fun cdv A outer s H E hr => jb__law_total_right G d_form_total d__law_take d__law_pick d__law_form_is d__law_forms_sum hr) rfl (F.bindsN fun _ _ _ _ _ _ us hl => match us, hl with | [_, _, _], _ => rfl)⟩
theorem jb_law (G : Gs P K mg) (d__law_bag : DefOk false P w K mg base ("_law_bag" : Str) [] 1 g__law_bag) (d__law_take : DefOk false P w K mg base ("_law_take" : Str) [] 2 g__law_take) (d__law_numbers : DefOk false P w K mg base ("_law_numbers" : Str) [] 5 g__law_numbers) (d__law_pick : DefOk false P w K mg base ("_law_pick" : Str) [] 3 g__law_pick) (d__law_form : DefOk false P w K mg base ("_law_form" : Str) [] 4 g__law_form) (d__law_two_right : DefOk false P w K mg base ("_law_two_right" : Str) [] 6 g__law_two_right) (d__law_kind_right : DefOk false P w K mg base ("_law_kind_right" : Str) [] 4 g__law_kind_right) (d__law_lengths_right : DefOk false P w K mg base ("_law_lengths_right" : Str) [] 5 g__law_lengths_right) (d__law_plain_right : DefOk false P w K mg base ("_law_plain_right" : Str) [] 6 g__law_plain_right) (d__law_total_right : DefOk false P w K mg base ("_law_total_right" : Str) [] 5 g__law_total_right) {f : Addr} {cdv : Value} {A : Around} {outer : List PySem.Env} {s : Shared} {H : Hp} {E : XK} (hr : Room 6 (A.deeper (envOfC ("law" : Str) (defScope st_law) s.heap.objs.size f cdv))) :
    JB (cxOf (L2N.CX P w) P w K mg base [("script" : Str), ("bag" : Str), ("pool" : Str), ("wide" : Str), ("forms" : Str), ("k" : Str), ("row" : Str), ("point" : Str), ("shape" : Str)] ("law" : Str) (defScope st_law) f cdv A outer s H E) (wcE E) (defBody st_law) m_law :=
  (jb_cons (js_set (i := 1) sc_law.nd rfl (Or.inl rfl) (je_call d__law_bag (hr.mono (by decide)) (L2N.takes_of rfl rfl rfl rfl) rfl (ja_cons (je_var 0) ja_nil)))
  (jb_cons (js_set (i := 2) sc_law.nd rfl (Or.inl rfl) (je_call d__law_numbers (hr.mono (by decide)) (L2N.takes_of rfl rfl rfl rfl) rfl (ja_cons (je_var 1) (ja_cons (je_op opd_add je_int (je_call d__law_take (hr.mono (by decide)) (L2N.takes_of rfl rfl rfl rfl) rfl (ja_cons (je_var 1) (ja_cons je_int ja_nil)))) ja_nil))))
  (jb_cons (js_set (i := 3) sc_law.nd rfl (Or.inl rfl) (je_call d__law_take (hr.mono (by decide)) (L2N.takes_of rfl rfl rfl rfl) rfl (ja_cons (je_var 1) (ja_cons je_int ja_nil))))
  (jb_cons (js_set (i := 4) sc_law.nd rfl (Or.inl rfl) (je_lst ja_nil flen_nil))
  (jb_cons (js_forR1 (L2.passes_of rfl) rfl rfl G.free_range (ja_cons (je_op opd_add je_int (je_call d__law_take (hr.mono (by decide)) (L2N.takes_of rfl rfl rfl rfl) rfl (ja_cons (je_var 1) (ja_cons je_int ja_nil)))) ja_nil) (jg_name (i := 5) sc_law.nd rfl (Or.inl rfl)) (jb_one (js_expr (je_lm PySem.F.slot_list_append PySem.F.type_list_append mtd_append (je_var 4) (ja_cons (je_call d__law_form (hr.mono (by decide)) (L2N.takes_of rfl rfl rfl rfl) rfl (ja_cons (je_var 1) (ja_cons (je_var 2) (ja_cons (je_var 3) ja_nil)))) ja_nil)))))
  (jb_cons (js_set (i := 6) sc_law.nd rfl (Or.inl rfl) (je_lst ja_nil flen_nil))
  (jb_cons (js_forR1 (L2.passes_of rfl) rfl rfl G.free_range (ja_cons (je_var 3) ja_nil) (jg_name (i := 5) sc_law.nd rfl (Or.inl rfl)) (jb_one (js_expr (je_lm PySem.F.slot_list_append PySem.F.type_list_append mtd_append (je_var 6) (ja_cons (je_call d__law_pick (hr.mono (by decide)) (L2N.takes_of rfl rfl rfl rfl) rfl (ja_cons (je_var 1) (ja_cons (je_var 2) ja_nil))) ja_nil)))))
  (jb_cons (js_set (i := 7) sc_law.nd rfl (Or.inl rfl) (je_callTy cad_tuple rfl G.free_tuple bt_tuple (ja_cons (je_var 6) ja_nil)))
  (jb_cons (js_for (L2.passes_of rfl) rfl (je_var 4) (jg_name (i := 8) sc_law.nd rfl (Or.inl rfl)) (jb_cons (js_if (jt_not (jt_tru (je_call d__law_two_right (hr.mono (by decide)) (L2N.takes_of rfl rfl rfl rfl) rfl (ja_cons (je_var 8) (ja_cons (je_call d__law_pick (hr.mono (by decide)) (L2N.takes_of rfl rfl rfl rfl) rfl (ja_cons (je_var 1) (ja_cons (je_var 4) ja_nil))) (ja_cons (je_var 7) (ja_cons (je_call d__law_pick (hr.mono (by decide)) (L2N.takes_of rfl rfl rfl rfl) rfl (ja_cons (je_var 1) (ja_cons (je_var 2) ja_nil))) ja_nil))))))) (jb_one (js_ret je_bl)) jb_nil)
  (jb_one (js_if (PW.pt (jw_or (jt_not (jt_tru (je_call d__law_kind_right (hr.mono (by decide)) (L2N.takes_of rfl rfl rfl rfl) rfl (ja_cons (je_var 1) (ja_cons (je_var 8) (ja_cons (je_var 3) ja_nil)))))) (jw_or1 (jt_not (jt_tru (je_call d__law_lengths_right (hr.mono (by decide)) (L2N.takes_of rfl rfl rfl rfl) rfl (ja_cons (je_var 8) (ja_cons (je_var 7) (ja_cons (je_ix ixd (je_var 2) je_int) ja_nil))))))))) (jb_one (js_ret je_bl)) jb_nil))))
  (jb_cons (js_if (jt_not (jt_tru (je_call d__law_plain_right (hr.mono (by decide)) (L2N.takes_of rfl rfl rfl rfl) rfl (ja_cons (je_call d__law_pick (hr.mono (by decide)) (L2N.takes_of rfl rfl rfl rfl) rfl (ja_cons (je_var 1) (ja_cons (je_var 2) ja_nil))) (ja_cons (je_var 7) ja_nil))))) (jb_one (js_ret je_bl)) jb_nil)
  (jb_one (js_ret (je_call d__law_total_right (hr.mono (by decide)) (L2N.takes_of rfl rfl rfl rfl) rfl (ja_cons (je_var 1) (ja_cons (je_var 4) (ja_cons (je_var 3) ja_nil))))))))))))))))
theorem law_ok (G : Gs P K mg) (d__law_bag : DefOk false P w K mg base ("_law_bag" : Str) [] 1 g__law_bag) (d__law_take : DefOk false P w K mg base ("_law_take" : Str) [] 2 g__law_take) (d__law_numbers : DefOk false P w K mg base ("_law_numbers" : Str) [] 5 g__law_numbers) (d__law_pick : DefOk false P w K mg base ("_law_pick" : Str) [] 3 g__law_pick) (d__law_form : DefOk false P w K mg base ("_law_form" : Str) [] 4 g__law_form) (d__law_two_right : DefOk false P w K mg base ("_law_two_right" : Str) [] 6 g__law_two_right) (d__law_kind_right : DefOk false P w K mg base ("_law_kind_right" : Str) [] 4 g__law_kind_right) (d__law_lengths_right : DefOk false P w K mg base ("_law_lengths_right" : Str) [] 5 g__law_lengths_right) (d__law_plain_right : DefOk false P w K mg base ("_law_plain_right" : Str) [] 6 g__law_plain_right) (d__law_total_right : DefOk false P w K mg base ("_law_total_right" : Str) [] 5 g__law_total_right) {f : Addr} {fd : FuncData} (F : FunD K ("law" : Str) ("law" : Str) (defArgs st_law) (defBody st_law) (defScope st_law) [] [] f fd) : FnOk P w K mg base (L2N.CX P w) 7 f fd [("script" : Str)] (spG K mg (arN 1 (den 9 m_law))) :=
  def_ok F sc_law fun cdv A outer s H E hr => jb_law G d__law_bag d__law_take d__law_numbers d__law_pick d__law_form d__law_two_right d__law_kind_right d__law_lengths_right d__law_plain_right d__law_total_right hr
end
end K03

set_option Elab.async false
set_option linter.all false
set_option maxRecDepth 100000
set_option maxHeartbeats 0
namespace K03
open PySem PySem.Spec PyProof.Rows L2 MP
abbrev Rw : PySem.W.OpenRow := PySem.W.OpenLaw.row PySem.Challenge.rw_pagefit_k03_forms_at_points
def theFile : Str := Rw.prog.main.file
def dd__law_bag : He.DefD := ⟨(("_law_bag" : Str), none), ("_law_bag" : Str), ("_law_bag" : Str), defArgs st__law_bag, defBody st__law_bag, defScope st__law_bag, [], []⟩
def dd__law_mixed : He.DefD := ⟨(("_law_mixed" : Str), none), ("_law_mixed" : Str), ("_law_mixed" : Str), defArgs st__law_mixed, defBody st__law_mixed, defScope st__law_mixed, [], []⟩
def dd__law_take : He.DefD := ⟨(("_law_take" : Str), none), ("_law_take" : Str), ("_law_take" : Str), defArgs st__law_take, defBody st__law_take, defScope st__law_take, [], []⟩
def dd__law_large : He.DefD := ⟨(("_law_large" : Str), none), ("_law_large" : Str), ("_law_large" : Str), defArgs st__law_large, defBody st__law_large, defScope st__law_large, [], []⟩
def dd__law_divisor : He.DefD := ⟨(("_law_divisor" : Str), none), ("_law_divisor" : Str), ("_law_divisor" : Str), defArgs st__law_divisor, defBody st__law_divisor, defScope st__law_divisor, [], []⟩
def dd__law_lowest : He.DefD := ⟨(("_law_lowest" : Str), none), ("_law_lowest" : Str), ("_law_lowest" : Str), defArgs st__law_lowest, defBody st__law_lowest, defScope st__law_lowest, [], []⟩
def dd__law_beside : He.DefD := ⟨(("_law_beside" : Str), none), ("_law_beside" : Str), ("_law_beside" : Str), defArgs st__law_beside, defBody st__law_beside, defScope st__law_beside, [], []⟩
def dd__law_number : He.DefD := ⟨(("_law_number" : Str), none), ("_law_number" : Str), ("_law_number" : Str), defArgs st__law_number, defBody st__law_number, defScope st__law_number, [], []⟩
def dd__law_numbers : He.DefD := ⟨(("_law_numbers" : Str), none), ("_law_numbers" : Str), ("_law_numbers" : Str), defArgs st__law_numbers, defBody st__law_numbers, defScope st__law_numbers, [], []⟩
def dd__law_pick : He.DefD := ⟨(("_law_pick" : Str), none), ("_law_pick" : Str), ("_law_pick" : Str), defArgs st__law_pick, defBody st__law_pick, defScope st__law_pick, [], []⟩
def dd__law_form : He.DefD := ⟨(("_law_form" : Str), none), ("_law_form" : Str), ("_law_form" : Str), defArgs st__law_form, defBody st__law_form, defScope st__law_form, [], []⟩
def dd_ratio : He.DefD := ⟨(("ratio" : Str), none), ("ratio" : Str), ("ratio" : Str), defArgs st_ratio, defBody st_ratio, defScope st_ratio, [He.Dv.int 1], []⟩
def dd_plus : He.DefD := ⟨(("plus" : Str), none), ("plus" : Str), ("plus" : Str), defArgs st_plus, defBody st_plus, defScope st_plus, [], []⟩
def dd_form_plus : He.DefD := ⟨(("form_plus" : Str), none), ("form_plus" : Str), ("form_plus" : Str), defArgs st_form_plus, defBody st_form_plus, defScope st_form_plus, [], []⟩
def dd_minus : He.DefD := ⟨(("minus" : Str), none), ("minus" : Str), ("minus" : Str), defArgs st_minus, defBody st_minus, defScope st_minus, [], []⟩
def dd_form_minus : He.DefD := ⟨(("form_minus" : Str), none), ("form_minus" : Str), ("form_minus" : Str), defArgs st_form_minus, defBody st_form_minus, defScope st_form_minus, [], []⟩
def dd_times : He.DefD := ⟨(("times" : Str), none), ("times" : Str), ("times" : Str), defArgs st_times, defBody st_times, defScope st_times, [], []⟩
def dd_form_times : He.DefD := ⟨(("form_times" : Str), none), ("form_times" : Str), ("form_times" : Str), defArgs st_form_times, defBody st_form_times, defScope st_form_times, [], []⟩
def dd_value_at : He.DefD := ⟨(("value_at" : Str), none), ("value_at" : Str), ("value_at" : Str), defArgs st_value_at, defBody st_value_at, defScope st_value_at, [], []⟩
def dd__law_integer : He.DefD := ⟨(("_law_integer" : Str), none), ("_law_integer" : Str), ("_law_integer" : Str), defArgs st__law_integer, defBody st__law_integer, defScope st__law_integer, [], []⟩
def dd__law_is : He.DefD := ⟨(("_law_is" : Str), none), ("_law_is" : Str), ("_law_is" : Str), defArgs st__law_is, defBody st__law_is, defScope st__law_is, [], []⟩
def dd__law_sum : He.DefD := ⟨(("_law_sum" : Str), none), ("_law_sum" : Str), ("_law_sum" : Str), defArgs st__law_sum, defBody st__law_sum, defScope st__law_sum, [], []⟩
def dd__law_forms_sum : He.DefD := ⟨(("_law_forms_sum" : Str), none), ("_law_forms_sum" : Str), ("_law_forms_sum" : Str), defArgs st__law_forms_sum, defBody st__law_forms_sum, defScope st__law_forms_sum, [], []⟩
def dd__law_product : He.DefD := ⟨(("_law_product" : Str), none), ("_law_product" : Str), ("_law_product" : Str), defArgs st__law_product, defBody st__law_product, defScope st__law_product, [], []⟩
def dd__law_scaled : He.DefD := ⟨(("_law_scaled" : Str), none), ("_law_scaled" : Str), ("_law_scaled" : Str), defArgs st__law_scaled, defBody st__law_scaled, defScope st__law_scaled, [], []⟩
def dd__law_worth : He.DefD := ⟨(("_law_worth" : Str), none), ("_law_worth" : Str), ("_law_worth" : Str), defArgs st__law_worth, defBody st__law_worth, defScope st__law_worth, [], []⟩
def dd__law_form_is : He.DefD := ⟨(("_law_form_is" : Str), none), ("_law_form_is" : Str), ("_law_form_is" : Str), defArgs st__law_form_is, defBody st__law_form_is, defScope st__law_form_is, [], []⟩
def dd__law_keeps : He.DefD := ⟨(("_law_keeps" : Str), none), ("_law_keeps" : Str), ("_law_keeps" : Str), defArgs st__law_keeps, defBody st__law_keeps, defScope st__law_keeps, [], []⟩
def dd__law_agrees : He.DefD := ⟨(("_law_agrees" : Str), none), ("_law_agrees" : Str), ("_law_agrees" : Str), defArgs st__law_agrees, defBody st__law_agrees, defScope st__law_agrees, [], []⟩
def dd__law_two_right : He.DefD := ⟨(("_law_two_right" : Str), none), ("_law_two_right" : Str), ("_law_two_right" : Str), defArgs st__law_two_right, defBody st__law_two_right, defScope st__law_two_right, [], []⟩
def dd__is_integer : He.DefD := ⟨(("_is_integer" : Str), none), ("_is_integer" : Str), ("_is_integer" : Str), defArgs st__is_integer, defBody st__is_integer, defScope st__is_integer, [], []⟩
def dd_is_number : He.DefD := ⟨(("is_number" : Str), none), ("is_number" : Str), ("is_number" : Str), defArgs st_is_number, defBody st_is_number, defScope st_is_number, [], []⟩
def dd_is_form : He.DefD := ⟨(("is_form" : Str), none), ("is_form" : Str), ("is_form" : Str), defArgs st_is_form, defBody st_is_form, defScope st_is_form, [], []⟩
def dd_is_flat : He.DefD := ⟨(("is_flat" : Str), none), ("is_flat" : Str), ("is_flat" : Str), defArgs st_is_flat, defBody st_is_flat, defScope st_is_flat, [], []⟩
def dd__law_truth_is : He.DefD := ⟨(("_law_truth_is" : Str), none), ("_law_truth_is" : Str), ("_law_truth_is" : Str), defArgs st__law_truth_is, defBody st__law_truth_is, defScope st__law_truth_is, [], []⟩
def dd__law_flat : He.DefD := ⟨(("_law_flat" : Str), none), ("_law_flat" : Str), ("_law_flat" : Str), defArgs st__law_flat, defBody st__law_flat, defScope st__law_flat, [], []⟩
def dd__law_kind_right : He.DefD := ⟨(("_law_kind_right" : Str), none), ("_law_kind_right" : Str), ("_law_kind_right" : Str), defArgs st__law_kind_right, defBody st__law_kind_right, defScope st__law_kind_right, [], []⟩
def dd__law_form_refused : He.DefD := ⟨(("_law_form_refused" : Str), none), ("_law_form_refused" : Str), ("_law_form_refused" : Str), defArgs st__law_form_refused, defBody st__law_form_refused, defScope st__law_form_refused, [], []⟩
def dd__law_lengths_right : He.DefD := ⟨(("_law_lengths_right" : Str), none), ("_law_lengths_right" : Str), ("_law_lengths_right" : Str), defArgs st__law_lengths_right, defBody st__law_lengths_right, defScope st__law_lengths_right, [], []⟩
def dd_flat : He.DefD := ⟨(("flat" : Str), none), ("flat" : Str), ("flat" : Str), defArgs st_flat, defBody st_flat, defScope st_flat, [], []⟩
def dd_parameter : He.DefD := ⟨(("parameter" : Str), none), ("parameter" : Str), ("parameter" : Str), defArgs st_parameter, defBody st_parameter, defScope st_parameter, [], []⟩
def dd__law_place_refused : He.DefD := ⟨(("_law_place_refused" : Str), none), ("_law_place_refused" : Str), ("_law_place_refused" : Str), defArgs st__law_place_refused, defBody st__law_place_refused, defScope st__law_place_refused, [], []⟩
def dd__law_plain_right : He.DefD := ⟨(("_law_plain_right" : Str), none), ("_law_plain_right" : Str), ("_law_plain_right" : Str), defArgs st__law_plain_right, defBody st__law_plain_right, defScope st__law_plain_right, [], []⟩
def dd_form_total : He.DefD := ⟨(("form_total" : Str), none), ("form_total" : Str), ("form_total" : Str), defArgs st_form_total, defBody st_form_total, defScope st_form_total, [], []⟩
def dd__law_total_right : He.DefD := ⟨(("_law_total_right" : Str), none), ("_law_total_right" : Str), ("_law_total_right" : Str), defArgs st__law_total_right, defBody st__law_total_right, defScope st__law_total_right, [], []⟩
def dd_law : He.DefD := ⟨(("law" : Str), none), ("law" : Str), ("law" : Str), defArgs st_law, defBody st_law, defScope st_law, [], []⟩
def fnL : List He.DefD := [dd__law_bag, dd__law_mixed, dd__law_take, dd__law_large, dd__law_divisor, dd__law_lowest, dd__law_beside, dd__law_number, dd__law_numbers, dd__law_pick, dd__law_form, dd_ratio, dd_plus, dd_form_plus, dd_minus, dd_form_minus, dd_times, dd_form_times, dd_value_at, dd__law_integer, dd__law_is, dd__law_sum, dd__law_forms_sum, dd__law_product, dd__law_scaled, dd__law_worth, dd__law_form_is, dd__law_keeps, dd__law_agrees, dd__law_two_right, dd__is_integer, dd_is_number, dd_is_form, dd_is_flat, dd__law_truth_is, dd__law_flat, dd__law_kind_right, dd__law_form_refused, dd__law_lengths_right, dd_flat, dd_parameter, dd__law_place_refused, dd__law_plain_right, dd_form_total, dd__law_total_right, dd_law]
def fcL : List FrB := ([freeB ("ValueError" : Str), freeB ("abs" : Str), freeB ("all" : Str), freeB ("bool" : Str), freeB ("int" : Str), freeB ("isinstance" : Str), freeB ("len" : Str), freeB ("list" : Str), freeB ("range" : Str), freeB ("sum" : Str), freeB ("tuple" : Str), freeB ("zip" : Str), bltB ("gcd" : Str) "math.gcd", gloB ("BadForm" : Str), gloB ("BadNumber" : Str), gloB ("BadPlace" : Str), gloB ("BadSpan" : Str), gloB ("BadText" : Str), gloB ("FitError" : Str), MP.tupB ("ONE" : Str) [He.Dv.int 1, He.Dv.int 1]] : List FrB) ++ ([MP.tupB ("ZERO" : Str) [He.Dv.int 0, He.Dv.int 1], freeB ("super" : Str), excB theFile ("BadForm" : Str) [("form" : Str)], excB theFile ("BadNumber" : Str) [("value" : Str)], excB theFile ("BadPlace" : Str) [("place" : Str)], exmB1 ("BadForm" : Str) (.glo ("FitError" : Str)) true, exmB1 ("BadPlace" : Str) (.glo ("FitError" : Str)) true, exmB1 ("BadNumber" : Str) (.glo ("FitError" : Str)) true, exmB1 ("BadForm" : Str) (.glo ("BadPlace" : Str)) false, exmB1 ("BadPlace" : Str) (.glo ("BadPlace" : Str)) true, exmB1 ("BadNumber" : Str) (.glo ("BadPlace" : Str)) false, ixcB ("BadNumber" : Str), ixcB ("BadPlace" : Str), ixcB ("BadForm" : Str), kitB1 ("BadForm" : Str) (.glo ("BadNumber" : Str)) false, kitB1 ("BadPlace" : Str) (.glo ("BadNumber" : Str)) false, kitB1 ("BadNumber" : Str) (.glo ("BadNumber" : Str)) true, kitB1 ("BadForm" : Str) (.glo ("BadText" : Str)) false, kitB1 ("BadPlace" : Str) (.glo ("BadText" : Str)) false, kitB1 ("BadNumber" : Str) (.glo ("BadText" : Str)) false] : List FrB) ++ ([kitB1 ("BadForm" : Str) (.glo ("BadSpan" : Str)) false, kitB1 ("BadPlace" : Str) (.glo ("BadSpan" : Str)) false, kitB1 ("BadNumber" : Str) (.glo ("BadSpan" : Str)) false, kitB1 ("BadForm" : Str) (.glo ("BadPlace" : Str)) false, kitB1 ("BadPlace" : Str) (.glo ("BadPlace" : Str)) true, kitB1 ("BadNumber" : Str) (.glo ("BadPlace" : Str)) false, kitB1 ("BadForm" : Str) (.glo ("BadForm" : Str)) true, kitB1 ("BadPlace" : Str) (.glo ("BadForm" : Str)) false, kitB1 ("BadNumber" : Str) (.glo ("BadForm" : Str)) false, kitB1 ("BadForm" : Str) (.ty "ValueError") true, kitB1 ("BadPlace" : Str) (.ty "ValueError") true, kitB1 ("BadNumber" : Str) (.ty "ValueError") true, kitB1 ("BadForm" : Str) (.glo ("FitError" : Str)) true, kitB1 ("BadPlace" : Str) (.glo ("FitError" : Str)) true, kitB1 ("BadNumber" : Str) (.glo ("FitError" : Str)) true, xfcB ("BadForm" : Str) ("form" : Str), xfcB ("BadPlace" : Str) ("place" : Str), gloB ("_law_bag" : Str), gloB ("_law_mixed" : Str), gloB ("_law_take" : Str)] : List FrB) ++ ([gloB ("_law_large" : Str), gloB ("_law_divisor" : Str), gloB ("_law_lowest" : Str), gloB ("_law_beside" : Str), gloB ("_law_number" : Str), gloB ("_law_numbers" : Str), gloB ("_law_pick" : Str), gloB ("_law_form" : Str), gloB ("ratio" : Str), gloB ("plus" : Str), gloB ("form_plus" : Str), gloB ("minus" : Str), gloB ("form_minus" : Str), gloB ("times" : Str), gloB ("form_times" : Str), gloB ("value_at" : Str), gloB ("_law_integer" : Str), gloB ("_law_is" : Str), gloB ("_law_sum" : Str), gloB ("_law_forms_sum" : Str)] : List FrB) ++ ([gloB ("_law_product" : Str), gloB ("_law_scaled" : Str), gloB ("_law_worth" : Str), gloB ("_law_form_is" : Str), gloB ("_law_keeps" : Str), gloB ("_law_agrees" : Str), gloB ("_law_two_right" : Str), gloB ("_is_integer" : Str), gloB ("is_number" : Str), gloB ("is_form" : Str), gloB ("is_flat" : Str), gloB ("_law_truth_is" : Str), gloB ("_law_flat" : Str), gloB ("_law_kind_right" : Str), gloB ("_law_form_refused" : Str), gloB ("_law_lengths_right" : Str), gloB ("flat" : Str), gloB ("parameter" : Str), gloB ("_law_place_refused" : Str), gloB ("_law_plain_right" : Str)] : List FrB) ++ ([gloB ("form_total" : Str), gloB ("_law_total_right" : Str), gloB ("law" : Str)] : List FrB)
def loose : List Str := (["FitError", "BadNumber", "BadText", "BadSpan", "BadForm", "BadPlace", "ZERO", "ONE", "ratio", "is_number", "_is_integer", "plus", "minus", "times", "flat", "parameter", "is_form", "is_flat", "form_plus", "form_minus", "form_times", "form_total", "value_at", "_law_bag", "_law_mixed", "_law_take", "_law_large", "_law_divisor", "_law_lowest", "_law_beside"] : List Str) ++ (["_law_number", "_law_numbers", "_law_integer", "_law_is", "_law_pick", "_law_form", "_law_form_is", "_law_sum", "_law_product", "_law_forms_sum", "_law_scaled", "_law_worth", "_law_keeps", "_law_truth_is", "_law_agrees", "_law_two_right", "_law_flat", "_law_kind_right", "_law_form_refused", "_law_lengths_right", "_law_place_refused", "_law_plain_right", "_law_total_right"] : List Str)
abbrev hk : PySem.W.Hook := hookM 4 fcL fnL
def ob (s : PySem.W.SharedT) : AlM := obsMG 4 fcL fnL (HandSHeadRun.getT s)
theorem ob_eq (s : PySem.W.SharedT) : ob s = hk.obs s.abs := obsMG_eq (HandSHeadRun.getT_eq s)
theorem run (w : World) : HandSHeadRun.RunEqI Rw (PySem.W.view Rw.prog [0, 58]) hk ob 6000 loose w := by
  unfold HandSHeadRun.RunEqI
  kernel_rfl
theorem fw_of {K : PySem.W.Frag} {h : Heap} {mg : Str → Option Value} (X : K.In h) (Gm : h.Ns mainGlobals mg) (c : SaysM fcL fnL K) : FitW PySem.Challenge.rw_pagefit_k03_forms_at_points.prog mg theFile := ⟨by kernel_rfl, by kernel_rfl, free_of X Gm (c.fact 21 rfl)⟩
theorem gs_of {K : PySem.W.Frag} {h : Heap} {mg : Str → Option Value} (X : K.In h) (Gm : h.Ns mainGlobals mg) (c : SaysM fcL fnL K) : Gs PySem.Challenge.rw_pagefit_k03_forms_at_points.prog K mg := by
  have FW := fw_of X Gm c
  exact {
    free_ValueError := free_of X Gm (c.fact 0 rfl),
    free_abs := free_of X Gm (c.fact 1 rfl),
    free_all := free_of X Gm (c.fact 2 rfl),
    free_bool := free_of X Gm (c.fact 3 rfl),
    free_int := free_of X Gm (c.fact 4 rfl),
    free_isinstance := free_of X Gm (c.fact 5 rfl),
    free_len := free_of X Gm (c.fact 6 rfl),
    free_list := free_of X Gm (c.fact 7 rfl),
    free_range := free_of X Gm (c.fact 8 rfl),
    free_sum := free_of X Gm (c.fact 9 rfl),
    free_tuple := free_of X Gm (c.fact 10 rfl),
    free_zip := free_of X Gm (c.fact 11 rfl),
    blt_gcd := blt_of X Gm (c.fact 12 rfl),
    glo_BadForm := glo_of X Gm (c.fact 13 rfl),
    glo_BadNumber := glo_of X Gm (c.fact 14 rfl),
    glo_BadPlace := glo_of X Gm (c.fact 15 rfl),
    glo_BadSpan := glo_of X Gm (c.fact 16 rfl),
    glo_BadText := glo_of X Gm (c.fact 17 rfl),
    glo_FitError := glo_of X Gm (c.fact 18 rfl),
    const_ONE := tup_of rfl X Gm (c.fact 19 rfl),
    const_ZERO := tup_of rfl X Gm (c.fact 20 rfl),
    exc_BadForm := exc_of X Gm FW (c.fact 22 rfl),
    exc_BadNumber := exc_of X Gm FW (c.fact 23 rfl),
    exc_BadPlace := exc_of X Gm FW (c.fact 24 rfl),
    tx_FitError := (tab_cons (cv := (.glo ("FitError" : Str))) (glo_of X Gm (c.fact 14 rfl)) (c.fact 27 rfl) (tab_cons (cv := (.glo ("FitError" : Str))) (glo_of X Gm (c.fact 15 rfl)) (c.fact 26 rfl) (tab_cons (cv := (.glo ("FitError" : Str))) (glo_of X Gm (c.fact 13 rfl)) (c.fact 25 rfl) tab_nil))),
    tx_BadPlace := (tab_cons (cv := (.glo ("BadPlace" : Str))) (glo_of X Gm (c.fact 14 rfl)) (c.fact 30 rfl) (tab_cons (cv := (.glo ("BadPlace" : Str))) (glo_of X Gm (c.fact 15 rfl)) (c.fact 29 rfl) (tab_cons (cv := (.glo ("BadPlace" : Str))) (glo_of X Gm (c.fact 13 rfl)) (c.fact 28 rfl) tab_nil))),
    ti_BadNumber := (tabi_cons (cv := (.glo ("BadNumber" : Str))) (glo_of X Gm (c.fact 14 rfl)) (ixc_of (c.fact 31 rfl)) (c.fact 36 rfl) (tabi_cons (cv := (.glo ("BadNumber" : Str))) (glo_of X Gm (c.fact 15 rfl)) (ixc_of (c.fact 32 rfl)) (c.fact 35 rfl) (tabi_cons (cv := (.glo ("BadNumber" : Str))) (glo_of X Gm (c.fact 13 rfl)) (ixc_of (c.fact 33 rfl)) (c.fact 34 rfl) tabi_nil))),
    ti_BadText := (tabi_cons (cv := (.glo ("BadText" : Str))) (glo_of X Gm (c.fact 14 rfl)) (ixc_of (c.fact 31 rfl)) (c.fact 39 rfl) (tabi_cons (cv := (.glo ("BadText" : Str))) (glo_of X Gm (c.fact 15 rfl)) (ixc_of (c.fact 32 rfl)) (c.fact 38 rfl) (tabi_cons (cv := (.glo ("BadText" : Str))) (glo_of X Gm (c.fact 13 rfl)) (ixc_of (c.fact 33 rfl)) (c.fact 37 rfl) tabi_nil))),
    ti_BadSpan := (tabi_cons (cv := (.glo ("BadSpan" : Str))) (glo_of X Gm (c.fact 14 rfl)) (ixc_of (c.fact 31 rfl)) (c.fact 42 rfl) (tabi_cons (cv := (.glo ("BadSpan" : Str))) (glo_of X Gm (c.fact 15 rfl)) (ixc_of (c.fact 32 rfl)) (c.fact 41 rfl) (tabi_cons (cv := (.glo ("BadSpan" : Str))) (glo_of X Gm (c.fact 13 rfl)) (ixc_of (c.fact 33 rfl)) (c.fact 40 rfl) tabi_nil))),
    ti_BadPlace := (tabi_cons (cv := (.glo ("BadPlace" : Str))) (glo_of X Gm (c.fact 14 rfl)) (ixc_of (c.fact 31 rfl)) (c.fact 45 rfl) (tabi_cons (cv := (.glo ("BadPlace" : Str))) (glo_of X Gm (c.fact 15 rfl)) (ixc_of (c.fact 32 rfl)) (c.fact 44 rfl) (tabi_cons (cv := (.glo ("BadPlace" : Str))) (glo_of X Gm (c.fact 13 rfl)) (ixc_of (c.fact 33 rfl)) (c.fact 43 rfl) tabi_nil))),
    ti_BadForm := (tabi_cons (cv := (.glo ("BadForm" : Str))) (glo_of X Gm (c.fact 14 rfl)) (ixc_of (c.fact 31 rfl)) (c.fact 48 rfl) (tabi_cons (cv := (.glo ("BadForm" : Str))) (glo_of X Gm (c.fact 15 rfl)) (ixc_of (c.fact 32 rfl)) (c.fact 47 rfl) (tabi_cons (cv := (.glo ("BadForm" : Str))) (glo_of X Gm (c.fact 13 rfl)) (ixc_of (c.fact 33 rfl)) (c.fact 46 rfl) tabi_nil))),
    ti_ValueError := (tabi_cons (cv := (.ty "ValueError")) (glo_of X Gm (c.fact 14 rfl)) (ixc_of (c.fact 31 rfl)) (c.fact 51 rfl) (tabi_cons (cv := (.ty "ValueError")) (glo_of X Gm (c.fact 15 rfl)) (ixc_of (c.fact 32 rfl)) (c.fact 50 rfl) (tabi_cons (cv := (.ty "ValueError")) (glo_of X Gm (c.fact 13 rfl)) (ixc_of (c.fact 33 rfl)) (c.fact 49 rfl) tabi_nil))),
    ti_FitError := (tabi_cons (cv := (.glo ("FitError" : Str))) (glo_of X Gm (c.fact 14 rfl)) (ixc_of (c.fact 31 rfl)) (c.fact 54 rfl) (tabi_cons (cv := (.glo ("FitError" : Str))) (glo_of X Gm (c.fact 15 rfl)) (ixc_of (c.fact 32 rfl)) (c.fact 53 rfl) (tabi_cons (cv := (.glo ("FitError" : Str))) (glo_of X Gm (c.fact 13 rfl)) (ixc_of (c.fact 33 rfl)) (c.fact 52 rfl) tabi_nil))),
    fld_form := (fld_cons (glo_of X Gm (c.fact 13 rfl)) (c.fact 55 rfl) fld_nil),
    fld_place := (fld_cons (glo_of X Gm (c.fact 15 rfl)) (c.fact 56 rfl) fld_nil) }
theorem law_fn {w : World} {K : PySem.W.Frag} {h : Heap} {mg : Str → Option Value} {fa : Addr} (X : K.In h) (Gm : h.Ns mainGlobals mg) (hmg : mg ("law" : Str) = some (.ref fa)) (c : SaysM fcL fnL K) :
    ∃ fd : FuncData, (∀ (s : Shared) (v : Value), BindsTo s fd ⟨[v], []⟩ [(("script" : Str), v)]) ∧ ∀ base : Heap, K.In base → base.Ns mainGlobals mg → FnOk PySem.Challenge.rw_pagefit_k03_forms_at_points.prog w K mg base (L2N.CX PySem.Challenge.rw_pagefit_k03_forms_at_points.prog w) 7 fa fd ["script"] (spG K mg (arN 1 (den 9 m_law))) := by
  have G := gs_of X Gm c
  obtain ⟨fd__law_bag, F__law_bag⟩ := c.def_ 0 (d := dd__law_bag) rfl
  obtain ⟨fd__law_mixed, F__law_mixed⟩ := c.def_ 1 (d := dd__law_mixed) rfl
  obtain ⟨fd__law_take, F__law_take⟩ := c.def_ 2 (d := dd__law_take) rfl
  obtain ⟨fd__law_large, F__law_large⟩ := c.def_ 3 (d := dd__law_large) rfl
  obtain ⟨fd__law_divisor, F__law_divisor⟩ := c.def_ 4 (d := dd__law_divisor) rfl
  obtain ⟨fd__law_lowest, F__law_lowest⟩ := c.def_ 5 (d := dd__law_lowest) rfl
  obtain ⟨fd__law_beside, F__law_beside⟩ := c.def_ 6 (d := dd__law_beside) rfl
  obtain ⟨fd__law_number, F__law_number⟩ := c.def_ 7 (d := dd__law_number) rfl
  obtain ⟨fd__law_numbers, F__law_numbers⟩ := c.def_ 8 (d := dd__law_numbers) rfl
  obtain ⟨fd__law_pick, F__law_pick⟩ := c.def_ 9 (d := dd__law_pick) rfl
  obtain ⟨fd__law_form, F__law_form⟩ := c.def_ 10 (d := dd__law_form) rfl
  obtain ⟨fd_ratio, F_ratio⟩ := c.def_ 11 (d := dd_ratio) rfl
  obtain ⟨fd_plus, F_plus⟩ := c.def_ 12 (d := dd_plus) rfl
  obtain ⟨fd_form_plus, F_form_plus⟩ := c.def_ 13 (d := dd_form_plus) rfl
  obtain ⟨fd_minus, F_minus⟩ := c.def_ 14 (d := dd_minus) rfl
  obtain ⟨fd_form_minus, F_form_minus⟩ := c.def_ 15 (d := dd_form_minus) rfl
  obtain ⟨fd_times, F_times⟩ := c.def_ 16 (d := dd_times) rfl
  obtain ⟨fd_form_times, F_form_times⟩ := c.def_ 17 (d := dd_form_times) rfl
  obtain ⟨fd_value_at, F_value_at⟩ := c.def_ 18 (d := dd_value_at) rfl
  obtain ⟨fd__law_integer, F__law_integer⟩ := c.def_ 19 (d := dd__law_integer) rfl
  obtain ⟨fd__law_is, F__law_is⟩ := c.def_ 20 (d := dd__law_is) rfl
  obtain ⟨fd__law_sum, F__law_sum⟩ := c.def_ 21 (d := dd__law_sum) rfl
  obtain ⟨fd__law_forms_sum, F__law_forms_sum⟩ := c.def_ 22 (d := dd__law_forms_sum) rfl
  obtain ⟨fd__law_product, F__law_product⟩ := c.def_ 23 (d := dd__law_product) rfl
  obtain ⟨fd__law_scaled, F__law_scaled⟩ := c.def_ 24 (d := dd__law_scaled) rfl
  obtain ⟨fd__law_worth, F__law_worth⟩ := c.def_ 25 (d := dd__law_worth) rfl
  obtain ⟨fd__law_form_is, F__law_form_is⟩ := c.def_ 26 (d := dd__law_form_is) rfl
  obtain ⟨fd__law_keeps, F__law_keeps⟩ := c.def_ 27 (d := dd__law_keeps) rfl
  obtain ⟨fd__law_agrees, F__law_agrees⟩ := c.def_ 28 (d := dd__law_agrees) rfl
  obtain ⟨fd__law_two_right, F__law_two_right⟩ := c.def_ 29 (d := dd__law_two_right) rfl
  obtain ⟨fd__is_integer, F__is_integer⟩ := c.def_ 30 (d := dd__is_integer) rfl
  obtain ⟨fd_is_number, F_is_number⟩ := c.def_ 31 (d := dd_is_number) rfl
  obtain ⟨fd_is_form, F_is_form⟩ := c.def_ 32 (d := dd_is_form) rfl
  obtain ⟨fd_is_flat, F_is_flat⟩ := c.def_ 33 (d := dd_is_flat) rfl
  obtain ⟨fd__law_truth_is, F__law_truth_is⟩ := c.def_ 34 (d := dd__law_truth_is) rfl
  obtain ⟨fd__law_flat, F__law_flat⟩ := c.def_ 35 (d := dd__law_flat) rfl
  obtain ⟨fd__law_kind_right, F__law_kind_right⟩ := c.def_ 36 (d := dd__law_kind_right) rfl
  obtain ⟨fd__law_form_refused, F__law_form_refused⟩ := c.def_ 37 (d := dd__law_form_refused) rfl
  obtain ⟨fd__law_lengths_right, F__law_lengths_right⟩ := c.def_ 38 (d := dd__law_lengths_right) rfl
  obtain ⟨fd_flat, F_flat⟩ := c.def_ 39 (d := dd_flat) rfl
  obtain ⟨fd_parameter, F_parameter⟩ := c.def_ 40 (d := dd_parameter) rfl
  obtain ⟨fd__law_place_refused, F__law_place_refused⟩ := c.def_ 41 (d := dd__law_place_refused) rfl
  obtain ⟨fd__law_plain_right, F__law_plain_right⟩ := c.def_ 42 (d := dd__law_plain_right) rfl
  obtain ⟨fd_form_total, F_form_total⟩ := c.def_ 43 (d := dd_form_total) rfl
  obtain ⟨fd__law_total_right, F__law_total_right⟩ := c.def_ 44 (d := dd__law_total_right) rfl
  obtain ⟨fd_law, F_law⟩ := c.def_ 45 (d := dd_law) rfl
  have gm__law_bag := glo_of X Gm (x := ("_law_bag" : Str)) (c.fact 57 rfl)
  have gm__law_mixed := glo_of X Gm (x := ("_law_mixed" : Str)) (c.fact 58 rfl)
  have gm__law_take := glo_of X Gm (x := ("_law_take" : Str)) (c.fact 59 rfl)
  have gm__law_large := glo_of X Gm (x := ("_law_large" : Str)) (c.fact 60 rfl)
  have gm__law_divisor := glo_of X Gm (x := ("_law_divisor" : Str)) (c.fact 61 rfl)
  have gm__law_lowest := glo_of X Gm (x := ("_law_lowest" : Str)) (c.fact 62 rfl)
  have gm__law_beside := glo_of X Gm (x := ("_law_beside" : Str)) (c.fact 63 rfl)
  have gm__law_number := glo_of X Gm (x := ("_law_number" : Str)) (c.fact 64 rfl)
  have gm__law_numbers := glo_of X Gm (x := ("_law_numbers" : Str)) (c.fact 65 rfl)
  have gm__law_pick := glo_of X Gm (x := ("_law_pick" : Str)) (c.fact 66 rfl)
  have gm__law_form := glo_of X Gm (x := ("_law_form" : Str)) (c.fact 67 rfl)
  have gm_ratio := glo_of X Gm (x := ("ratio" : Str)) (c.fact 68 rfl)
  have gm_plus := glo_of X Gm (x := ("plus" : Str)) (c.fact 69 rfl)
  have gm_form_plus := glo_of X Gm (x := ("form_plus" : Str)) (c.fact 70 rfl)
  have gm_minus := glo_of X Gm (x := ("minus" : Str)) (c.fact 71 rfl)
  have gm_form_minus := glo_of X Gm (x := ("form_minus" : Str)) (c.fact 72 rfl)
  have gm_times := glo_of X Gm (x := ("times" : Str)) (c.fact 73 rfl)
  have gm_form_times := glo_of X Gm (x := ("form_times" : Str)) (c.fact 74 rfl)
  have gm_value_at := glo_of X Gm (x := ("value_at" : Str)) (c.fact 75 rfl)
  have gm__law_integer := glo_of X Gm (x := ("_law_integer" : Str)) (c.fact 76 rfl)
  have gm__law_is := glo_of X Gm (x := ("_law_is" : Str)) (c.fact 77 rfl)
  have gm__law_sum := glo_of X Gm (x := ("_law_sum" : Str)) (c.fact 78 rfl)
  have gm__law_forms_sum := glo_of X Gm (x := ("_law_forms_sum" : Str)) (c.fact 79 rfl)
  have gm__law_product := glo_of X Gm (x := ("_law_product" : Str)) (c.fact 80 rfl)
  have gm__law_scaled := glo_of X Gm (x := ("_law_scaled" : Str)) (c.fact 81 rfl)
  have gm__law_worth := glo_of X Gm (x := ("_law_worth" : Str)) (c.fact 82 rfl)
  have gm__law_form_is := glo_of X Gm (x := ("_law_form_is" : Str)) (c.fact 83 rfl)
  have gm__law_keeps := glo_of X Gm (x := ("_law_keeps" : Str)) (c.fact 84 rfl)
  have gm__law_agrees := glo_of X Gm (x := ("_law_agrees" : Str)) (c.fact 85 rfl)
  have gm__law_two_right := glo_of X Gm (x := ("_law_two_right" : Str)) (c.fact 86 rfl)
  have gm__is_integer := glo_of X Gm (x := ("_is_integer" : Str)) (c.fact 87 rfl)
  have gm_is_number := glo_of X Gm (x := ("is_number" : Str)) (c.fact 88 rfl)
  have gm_is_form := glo_of X Gm (x := ("is_form" : Str)) (c.fact 89 rfl)
  have gm_is_flat := glo_of X Gm (x := ("is_flat" : Str)) (c.fact 90 rfl)
  have gm__law_truth_is := glo_of X Gm (x := ("_law_truth_is" : Str)) (c.fact 91 rfl)
  have gm__law_flat := glo_of X Gm (x := ("_law_flat" : Str)) (c.fact 92 rfl)
  have gm__law_kind_right := glo_of X Gm (x := ("_law_kind_right" : Str)) (c.fact 93 rfl)
  have gm__law_form_refused := glo_of X Gm (x := ("_law_form_refused" : Str)) (c.fact 94 rfl)
  have gm__law_lengths_right := glo_of X Gm (x := ("_law_lengths_right" : Str)) (c.fact 95 rfl)
  have gm_flat := glo_of X Gm (x := ("flat" : Str)) (c.fact 96 rfl)
  have gm_parameter := glo_of X Gm (x := ("parameter" : Str)) (c.fact 97 rfl)
  have gm__law_place_refused := glo_of X Gm (x := ("_law_place_refused" : Str)) (c.fact 98 rfl)
  have gm__law_plain_right := glo_of X Gm (x := ("_law_plain_right" : Str)) (c.fact 99 rfl)
  have gm_form_total := glo_of X Gm (x := ("form_total" : Str)) (c.fact 100 rfl)
  have gm__law_total_right := glo_of X Gm (x := ("_law_total_right" : Str)) (c.fact 101 rfl)
  have gm_law := glo_of X Gm (x := ("law" : Str)) (c.fact 102 rfl)
  have e := hmg.symm.trans gm_law
  cases e
  have b := FunD.bindsA (ps := ["script"]) F_law fun _ _ _ _ _ _ us hl => match us, hl with | [_], _ => rfl
  refine ⟨fd_law, fun s v => b s [v] rfl, fun base _ _ => ?_⟩
  have kd__law_bag : DefOk false PySem.Challenge.rw_pagefit_k03_forms_at_points.prog w K mg base ("_law_bag" : Str) [] 1 g__law_bag := d__law_bag G  gm__law_bag F__law_bag
  have kd__law_mixed : DefOk false PySem.Challenge.rw_pagefit_k03_forms_at_points.prog w K mg base ("_law_mixed" : Str) [] 1 g__law_mixed := d__law_mixed G  gm__law_mixed F__law_mixed
  have kd__law_take : DefOk false PySem.Challenge.rw_pagefit_k03_forms_at_points.prog w K mg base ("_law_take" : Str) [] 2 g__law_take := d__law_take G kd__law_mixed gm__law_take F__law_take
  have kd__law_large : DefOk false PySem.Challenge.rw_pagefit_k03_forms_at_points.prog w K mg base ("_law_large" : Str) [] 3 g__law_large := d__law_large G kd__law_take gm__law_large F__law_large
  have kd__law_divisor : DefOk false PySem.Challenge.rw_pagefit_k03_forms_at_points.prog w K mg base ("_law_divisor" : Str) [] 1 g__law_divisor := d__law_divisor G  gm__law_divisor F__law_divisor
  have kd__law_lowest : DefOk false PySem.Challenge.rw_pagefit_k03_forms_at_points.prog w K mg base ("_law_lowest" : Str) [] 2 g__law_lowest := d__law_lowest G kd__law_divisor gm__law_lowest F__law_lowest
  have kd__law_beside : DefOk false PySem.Challenge.rw_pagefit_k03_forms_at_points.prog w K mg base ("_law_beside" : Str) [] 3 g__law_beside := d__law_beside G kd__law_take kd__law_lowest gm__law_beside F__law_beside
  have kd__law_number : DefOk false PySem.Challenge.rw_pagefit_k03_forms_at_points.prog w K mg base ("_law_number" : Str) [] 4 g__law_number := d__law_number G kd__law_take kd__law_large kd__law_lowest kd__law_beside gm__law_number F__law_number
  have kd__law_numbers : DefOk false PySem.Challenge.rw_pagefit_k03_forms_at_points.prog w K mg base ("_law_numbers" : Str) [] 5 g__law_numbers := d__law_numbers G kd__law_number gm__law_numbers F__law_numbers
  have kd__law_pick : DefOk false PySem.Challenge.rw_pagefit_k03_forms_at_points.prog w K mg base ("_law_pick" : Str) [] 3 g__law_pick := d__law_pick G kd__law_take gm__law_pick F__law_pick
  have kd__law_form : DefOk false PySem.Challenge.rw_pagefit_k03_forms_at_points.prog w K mg base ("_law_form" : Str) [] 4 g__law_form := d__law_form G kd__law_take kd__law_pick gm__law_form F__law_form
  have kd_ratio : DefOk false PySem.Challenge.rw_pagefit_k03_forms_at_points.prog w K mg base ("ratio" : Str) [] 1 g_ratio := d_ratio G  gm_ratio F_ratio
  have kd_plus : DefOk false PySem.Challenge.rw_pagefit_k03_forms_at_points.prog w K mg base ("plus" : Str) [] 2 g_plus := d_plus G kd_ratio gm_plus F_plus
  have kd_form_plus : DefOk false PySem.Challenge.rw_pagefit_k03_forms_at_points.prog w K mg base ("form_plus" : Str) [] 3 g_form_plus := d_form_plus G kd_plus gm_form_plus F_form_plus
  have kd_minus : DefOk false PySem.Challenge.rw_pagefit_k03_forms_at_points.prog w K mg base ("minus" : Str) [] 2 g_minus := d_minus G kd_ratio gm_minus F_minus
  have kd_form_minus : DefOk false PySem.Challenge.rw_pagefit_k03_forms_at_points.prog w K mg base ("form_minus" : Str) [] 3 g_form_minus := d_form_minus G kd_minus gm_form_minus F_form_minus
  have kd_times : DefOk false PySem.Challenge.rw_pagefit_k03_forms_at_points.prog w K mg base ("times" : Str) [] 2 g_times := d_times G kd_ratio gm_times F_times
  have kd_form_times : DefOk false PySem.Challenge.rw_pagefit_k03_forms_at_points.prog w K mg base ("form_times" : Str) [] 3 g_form_times := d_form_times G kd_times gm_form_times F_form_times
  have kd_value_at : DefOk false PySem.Challenge.rw_pagefit_k03_forms_at_points.prog w K mg base ("value_at" : Str) [] 3 g_value_at := d_value_at G kd_plus kd_times gm_value_at F_value_at
  have kd__law_integer : DefOk false PySem.Challenge.rw_pagefit_k03_forms_at_points.prog w K mg base ("_law_integer" : Str) [] 1 g__law_integer := d__law_integer G  gm__law_integer F__law_integer
  have kdh__law_integer : DefOk true PySem.Challenge.rw_pagefit_k03_forms_at_points.prog w K mg base ("_law_integer" : Str) [] 1 g__law_integer := dh__law_integer G  gm__law_integer F__law_integer
  have kd__law_is : DefOk false PySem.Challenge.rw_pagefit_k03_forms_at_points.prog w K mg base ("_law_is" : Str) [] 2 g__law_is := d__law_is G kd__law_integer gm__law_is F__law_is
  have kdh__law_is : DefOk true PySem.Challenge.rw_pagefit_k03_forms_at_points.prog w K mg base ("_law_is" : Str) [] 2 g__law_is := dh__law_is G kdh__law_integer gm__law_is F__law_is
  have kd__law_sum : DefOk false PySem.Challenge.rw_pagefit_k03_forms_at_points.prog w K mg base ("_law_sum" : Str) [] 3 g__law_sum := d__law_sum G kd__law_lowest gm__law_sum F__law_sum
  have kd__law_forms_sum : DefOk false PySem.Challenge.rw_pagefit_k03_forms_at_points.prog w K mg base ("_law_forms_sum" : Str) [] 4 g__law_forms_sum := d__law_forms_sum G kd__law_sum gm__law_forms_sum F__law_forms_sum
  have kd__law_product : DefOk false PySem.Challenge.rw_pagefit_k03_forms_at_points.prog w K mg base ("_law_product" : Str) [] 3 g__law_product := d__law_product G kd__law_lowest gm__law_product F__law_product
  have kd__law_scaled : DefOk false PySem.Challenge.rw_pagefit_k03_forms_at_points.prog w K mg base ("_law_scaled" : Str) [] 4 g__law_scaled := d__law_scaled G kd__law_product gm__law_scaled F__law_scaled
  have kd__law_worth : DefOk false PySem.Challenge.rw_pagefit_k03_forms_at_points.prog w K mg base ("_law_worth" : Str) [] 4 g__law_worth := d__law_worth G kd__law_sum kd__law_product gm__law_worth F__law_worth
  have kd__law_form_is : DefOk false PySem.Challenge.rw_pagefit_k03_forms_at_points.prog w K mg base ("_law_form_is" : Str) [] 3 g__law_form_is := d__law_form_is G kd__law_is gm__law_form_is F__law_form_is
  have kdh__law_form_is : DefOk true PySem.Challenge.rw_pagefit_k03_forms_at_points.prog w K mg base ("_law_form_is" : Str) [] 3 g__law_form_is := dh__law_form_is G kdh__law_is gm__law_form_is F__law_form_is
  have kd__law_keeps : DefOk false PySem.Challenge.rw_pagefit_k03_forms_at_points.prog w K mg base ("_law_keeps" : Str) [] 1 g__law_keeps := d__law_keeps G  gm__law_keeps F__law_keeps
  have kd__law_agrees : DefOk false PySem.Challenge.rw_pagefit_k03_forms_at_points.prog w K mg base ("_law_agrees" : Str) [] 5 g__law_agrees := d__law_agrees G kd_value_at kd__law_is kd__law_form_is kd__law_worth kd__law_keeps gm__law_agrees F__law_agrees
  have kd__law_two_right : DefOk false PySem.Challenge.rw_pagefit_k03_forms_at_points.prog w K mg base ("_law_two_right" : Str) [] 6 g__law_two_right := d__law_two_right G kd_form_plus kd_form_minus kd_form_times kd_value_at kd__law_is kd__law_forms_sum kd__law_scaled kd__law_worth kd__law_agrees gm__law_two_right F__law_two_right
  have kd__is_integer : DefOk false PySem.Challenge.rw_pagefit_k03_forms_at_points.prog w K mg base ("_is_integer" : Str) [] 1 g__is_integer := d__is_integer G  gm__is_integer F__is_integer
  have kd_is_number : DefOk false PySem.Challenge.rw_pagefit_k03_forms_at_points.prog w K mg base ("is_number" : Str) [] 2 g_is_number := d_is_number G kd__is_integer gm_is_number F_is_number
  have kd_is_form : DefOk false PySem.Challenge.rw_pagefit_k03_forms_at_points.prog w K mg base ("is_form" : Str) [] 3 g_is_form := d_is_form G kd_is_number gm_is_form F_is_form
  have kd_is_flat : DefOk false PySem.Challenge.rw_pagefit_k03_forms_at_points.prog w K mg base ("is_flat" : Str) [] 1 g_is_flat := d_is_flat G  gm_is_flat F_is_flat
  have kd__law_truth_is : DefOk false PySem.Challenge.rw_pagefit_k03_forms_at_points.prog w K mg base ("_law_truth_is" : Str) [] 1 g__law_truth_is := d__law_truth_is G  gm__law_truth_is F__law_truth_is
  have kd__law_flat : DefOk false PySem.Challenge.rw_pagefit_k03_forms_at_points.prog w K mg base ("_law_flat" : Str) [] 1 g__law_flat := d__law_flat G  gm__law_flat F__law_flat
  have kd__law_kind_right : DefOk false PySem.Challenge.rw_pagefit_k03_forms_at_points.prog w K mg base ("_law_kind_right" : Str) [] 4 g__law_kind_right := d__law_kind_right G kd_is_form kd_is_flat kd__law_take kd__law_truth_is kd__law_flat gm__law_kind_right F__law_kind_right
  have kd__law_form_refused : DefOk false PySem.Challenge.rw_pagefit_k03_forms_at_points.prog w K mg base ("_law_form_refused" : Str) [] 4 g__law_form_refused := d__law_form_refused G kd_value_at kdh__law_form_is gm__law_form_refused F__law_form_refused
  have kd__law_lengths_right : DefOk false PySem.Challenge.rw_pagefit_k03_forms_at_points.prog w K mg base ("_law_lengths_right" : Str) [] 5 g__law_lengths_right := d__law_lengths_right G kd__law_form_refused gm__law_lengths_right F__law_lengths_right
  have kd_flat_ksize_number_0 : DefOk false PySem.Challenge.rw_pagefit_k03_forms_at_points.prog w K mg base ("flat" : Str) [("size" : Str), ("number" : Str)] 1 g_flat_ksize_number_0 := d_flat_ksize_number_0 G  gm_flat F_flat
  have kd_flat : DefOk false PySem.Challenge.rw_pagefit_k03_forms_at_points.prog w K mg base ("flat" : Str) [] 1 g_flat := d_flat G  gm_flat F_flat
  have kd_parameter_ksize_index_0 : DefOk false PySem.Challenge.rw_pagefit_k03_forms_at_points.prog w K mg base ("parameter" : Str) [("size" : Str), ("index" : Str)] 1 g_parameter_ksize_index_0 := d_parameter_ksize_index_0 G  gm_parameter F_parameter
  have kd_parameter : DefOk false PySem.Challenge.rw_pagefit_k03_forms_at_points.prog w K mg base ("parameter" : Str) [] 1 g_parameter := d_parameter G  gm_parameter F_parameter
  have kd__law_place_refused : DefOk false PySem.Challenge.rw_pagefit_k03_forms_at_points.prog w K mg base ("_law_place_refused" : Str) [] 2 g__law_place_refused := d__law_place_refused G kd_parameter kdh__law_integer gm__law_place_refused F__law_place_refused
  have kd__law_plain_right : DefOk false PySem.Challenge.rw_pagefit_k03_forms_at_points.prog w K mg base ("_law_plain_right" : Str) [] 6 g__law_plain_right := d__law_plain_right G kd_flat_ksize_number_0 kd_flat kd_parameter_ksize_index_0 kd_parameter kd_is_flat kd__law_form_is kd__law_truth_is kd__law_agrees kd__law_place_refused gm__law_plain_right F__law_plain_right
  have kd_form_total : DefOk false PySem.Challenge.rw_pagefit_k03_forms_at_points.prog w K mg base ("form_total" : Str) [] 4 g_form_total := d_form_total G kd_flat kd_form_plus gm_form_total F_form_total
  have kd__law_total_right : DefOk false PySem.Challenge.rw_pagefit_k03_forms_at_points.prog w K mg base ("_law_total_right" : Str) [] 5 g__law_total_right := d__law_total_right G kd_form_total kd__law_take kd__law_pick kd__law_form_is kd__law_forms_sum gm__law_total_right F__law_total_right
  exact law_ok G kd__law_bag kd__law_take kd__law_numbers kd__law_pick kd__law_form kd__law_two_right kd__law_kind_right kd__law_lengths_right kd__law_plain_right kd__law_total_right F_law
end K03

set_option Elab.async false
set_option linter.all false
set_option maxRecDepth 100000
set_option maxHeartbeats 4000000
/-! MPT8: equations for reckoning with texts. -/
namespace MP
open PySem
section
variable (ρ : En) (st : S) (i : Int) (a b : Str)
@[simp] theorem gIntS_int : gIntS [.int i] st = some (.int i, st) := rfl
@[simp] theorem gFind_str : gFind (.str a) (.str b) st = some (.int (Txt.find a b), st) := rfl
@[simp] theorem gStarts_str : gStarts (.str a) (.str b) st = some (.bl (Txt.startswith a b), st) := rfl
@[simp] theorem gEq_str : gEq (.str a) (.str b) st = some (.bl (decide (a = b)), st) := rfl
@[simp] theorem gNe_str : gNe (.str a) (.str b) st = some (.bl (!decide (a = b)), st) := rfl
@[simp] theorem gAdd_str : gAdd (.str a) (.str b) st = if a.length + b.length ≤ sizeLine then some (.str (a ++ b), st) else none := rfl
@[simp] theorem gLen_str : gLen [.str a] st = if a.length ≤ sizeLine then some (.int a.length, st) else none := rfl
@[simp] theorem gIx_str : gIx (.str a) (.int i) st = if a.length ≤ sizeLine then (L2.atI a.cps.toList i).map fun c => (.str ⟨#[c]⟩, st) else none := rfl
@[simp] theorem gIs_non (x : D) (h : x = .non) : gIs x .non st = gIs .non .non st := by rw [h]
@[simp] theorem fM1_ap (g : D → D → S → Option (D × S)) (o f : FE) : fM1 g o f ρ st = (o ρ st).bind fun x st1 => match x with
  | .str _ => (f ρ st1).bind fun y st2 => ofO (g x y st2)
  | _ => .bad := rfl
@[simp] theorem inS_one (n : Bool) (c : Nat) : inS n (.str ⟨#[c]⟩) (.str a) st = some (.bl (if n then !decide (c ∈ a.cps.toList) else decide (c ∈ a.cps.toList)), st) := rfl
end
abbrev DG : Str := ("0123456789" : Str)
def isDg (c : Nat) : Prop := 48 ≤ c ∧ c ≤ 57
instance (c : Nat) : Decidable (isDg c) := inferInstanceAs (Decidable (_ ∧ _))
theorem DG_cps : DG.cps.toList = [48, 49, 50, 51, 52, 53, 54, 55, 56, 57] := by decide +kernel
theorem mem_DG (c : Nat) : c ∈ DG.cps.toList ↔ isDg c := by
  rw [DG_cps]
  unfold isDg
  simp only [List.mem_cons, List.not_mem_nil, or_false]
  omega
theorem find_DG_none {c : Nat} (h : ¬ isDg c) : Txt.find DG ⟨#[c]⟩ = -1 := by
  have e := StrLaws.found_one DG c
  rw [decide_eq_false (fun m => h ((mem_DG c).mp m))] at e
  unfold Txt.find
  cases ho : Builtin.Str.occurrences DG ⟨#[c]⟩ 0 DG.length 1 with
  | nil => rfl
  | cons x r => rw [ho] at e; simp at e
theorem find_DG {c : Nat} (h : isDg c) : Txt.find DG ⟨#[c]⟩ = ((c - 48 : Nat) : Int) := by
  obtain ⟨h1, h2⟩ := h
  obtain ⟨k, rfl⟩ : ∃ k, c = 48 + k := ⟨c - 48, by omega⟩
  have hk : k < 10 := by omega
  match k, hk with
  | 0, _ => decide +kernel
  | 1, _ => decide +kernel
  | 2, _ => decide +kernel
  | 3, _ => decide +kernel
  | 4, _ => decide +kernel
  | 5, _ => decide +kernel
  | 6, _ => decide +kernel
  | 7, _ => decide +kernel
  | 8, _ => decide +kernel
  | 9, _ => decide +kernel
  | k + 10, h => omega
end MP

set_option Elab.async false
set_option linter.all false
set_option maxRecDepth 100000
set_option maxHeartbeats 4000000
/-! MPT9: more equations for reckoning with texts, suites. -/
namespace MP
open PySem
section
variable (ρ : En) (st : S) (i : Int) (a b : Str)
@[simp] theorem gSl_str (lo hi : Option Int) : gSl (.str a) lo hi st = if a.length ≤ sizeLine then some (.str (L2.cutS a lo hi), st) else none := rfl
@[simp] theorem gSplit_str : gSplit (.str a) (.str b) st = if (b.length == 0) = false ∧ a.length + 2 ≤ sizeLine then some (.loc st.length, st ++ [.lst ((Txt.split a b).map D.str)]) else none := rfl
@[simp] theorem fPart_ap (e : FE) : fPart e ρ st = (e ρ st).bind fun x st1 => match x with
  | .int i => .ok (some i) st1
  | _ => .bad := rfl
@[simp] theorem gIs_int_non : gIs (.int i) .non st = some (.bl false, st) := by
  show some (D.bl (decide (D.int i = .non)), st) = _
  rw [decide_eq_false (by simp)]
@[simp] theorem gIs_tup_non (ds : List D) : gIs (.tup ds) .non st = some (.bl false, st) := by
  show some (D.bl (decide (D.tup ds = .non)), st) = _
  rw [decide_eq_false (by simp)]
@[simp] theorem gIs_str_non : gIs (.str a) .non st = some (.bl false, st) := by
  show some (D.bl (decide (D.str a = .non)), st) = _
  rw [decide_eq_false (by simp)]
@[simp] theorem gIs_loc_non (n : Nat) : gIs (.loc n) .non st = some (.bl false, st) := by
  show some (D.bl (decide (D.loc n = .non)), st) = _
  rw [decide_eq_false (by simp)]
@[simp] theorem gIs_non_non : gIs .non .non st = some (.bl true, st) := by
  show some (D.bl (decide (D.non = .non)), st) = _
  rw [decide_eq_true rfl]
@[simp] theorem gStr_str : gStr [.str a] st = some (.str a, st) := rfl
@[simp] theorem fFmt_ap (e : FE) : fFmt e ρ st = (e ρ st).bind fun x st1 => match x with
  | .str y => if y.length ≤ sizeLine then .ok (.str y) st1 else .bad
  | .int i => if i.natAbs.log2 < 1920 then .ok (.str (toString i)) st1 else .bad
  | _ => .bad := rfl
@[simp] theorem fJs_nil (acc : Str) : fJs [] acc ρ st = .ok (.str acc) st := rfl
@[simp] theorem fJs_cons (f : FE) (r : List FE) (acc : Str) : fJs (f :: r) acc ρ st = (f ρ st).bind fun x st1 => match x with
    | .str y => if (acc ++ y).length ≤ sizeLine then fJs r (acc ++ y) ρ st1 else .bad
    | _ => .bad := rfl
@[simp] theorem leave_rt (i : Nat) (d : D) (st : S) : sLeave i (.rt d st) = .rt d st := rfl
end
theorem sTryAs_ex {i : Nat} {tb : List (Str × Bool)} {fb : FS} {fh : Ex → Nat → FS} {ρ ρ1 : En} {st st1 : S} {e : Ex} (h : fb ρ st = .ex e ρ1 st1) (hl : tb.lookup e.cls = some true) :
    sTryAs i tb fb fh ρ st = sLeave i (fh e st1.length (ρ1.set i (some (.loc st1.length))) (st1 ++ [.nu])) := by
  unfold sTryAs
  rw [h]
  simp only [hl]
theorem kIsX_ok {k a : Nat} {c : Str} {tb : List (Str × Bool)} {st : S} {fs : List (Str × D)} {b : Bool} (h : st[a]? = some (.xd fs)) (hl : tb.lookup c = some b) : kIsX k ⟨c, a⟩ tb (.loc k) st = .ok (.bl b) st := by
  unfold kIsX
  rw [if_pos rfl]
  simp only [h, hl]
theorem kXf_ok {k a : Nat} {c f : Str} {cs : List Str} {st : S} {fs : List (Str × D)} {d : D} (h : st[a]? = some (.xd fs)) (hc : c ∈ cs) (hl : fs.lookup f = some d) : kXf k ⟨c, a⟩ cs f (.loc k) st = .ok d st := by
  unfold kXf
  rw [if_pos ⟨rfl, hc⟩]
  simp only [h, hl]
theorem gAdd_loc {st : S} {m n : Nat} {xs ys : List D} (h : st[m]? = some (.lst xs)) (g : st[n]? = some (.lst ys)) (hs : xs.length + ys.length ≤ sizeLine) : gAdd (.loc m) (.loc n) st = some (.loc st.length, st ++ [.lst (xs ++ ys)]) := by
  unfold gAdd
  simp only [h, g, if_pos hs]
end MP

set_option Elab.async false
set_option linter.all false
set_option maxRecDepth 100000
set_option maxHeartbeats 4000000
/-! MPL8: equations for reckoning with sources and comprehensions. -/
namespace MP
open PySem
section
variable (ρ : En) (st : S)
@[simp] theorem fSeq_ap (e : FE) : fSeq e ρ st = (e ρ st).bind fun d st1 => match d with
  | .tup ds => .ok (ds, (fun _ => true : S → Bool)) st1
  | .loc n => match lstAt st1 n with
    | some ds => .ok (ds, (fun s => decide (lstAt s n = some ds) : S → Bool)) st1
    | none => .bad
  | .str z => .ok (signs z, (fun _ => true : S → Bool)) st1
  | _ => .bad := rfl
@[simp] theorem fYes_ap : fYes ρ st = .ok true st := rfl
@[simp] theorem gSl_tup (xs : List D) (lo hi : Option Int) : gSl (.tup xs) lo hi st = some (.tup (cutD xs lo hi), st) := rfl
@[simp] theorem gTuple_tup (xs : List D) : gTuple [.tup xs] st = some (.tup xs, st) := rfl
@[simp] theorem gList_tup (xs : List D) : gList [.tup xs] st = some (.loc st.length, st ++ [.lst xs]) := rfl
@[simp] theorem gMulT_tup (xs : List D) (k : Int) : gMulT (.tup xs) (.int k) st = if -1000 ≤ k ∧ k ≤ 1000 ∧ xs.length ≤ 1000 then some (.tup (List.replicate k.toNat xs).flatten, st) else none := rfl
@[simp] theorem gAdd_tup (xs ys : List D) : gAdd (.tup xs) (.tup ys) st = if xs.length + ys.length ≤ sizeLine then some (.tup (xs ++ ys), st) else none := rfl
end
theorem gTuple_loc {st : S} {n : Nat} {xs : List D} (h : lstAt st n = some xs) : gTuple [.loc n] st = some (.tup xs, st) := by
  unfold gTuple
  simp only [h]
theorem gList_loc {st : S} {n : Nat} {xs : List D} (h : lstAt st n = some xs) : gList [.loc n] st = some (.loc st.length, st ++ [.lst xs]) := by
  unfold gList
  simp only [h]
theorem gAll_loc {st : S} {n : Nat} {xs : List D} {bs : List Bool} (h : lstAt st n = some xs) (e : bolsD xs = some bs) : gAll [.loc n] st = some (.bl (bs.all id), st) := by
  unfold gAll
  simp only [h, e, Option.map_some]
theorem gSl_loc {st : S} {n : Nat} {xs : List D} {lo hi : Option Int} (h : lstAt st n = some xs) : gSl (.loc n) lo hi st = some (.loc st.length, st ++ [.lst (cutD xs lo hi)]) := by
  unfold gSl
  simp only [h]
theorem bols_map {α : Type} (f : α → Bool) : ∀ l : List α, bolsD (l.map fun x => D.bl (f x)) = some (l.map f)
  | [] => rfl
  | a :: l => by
    show (bolsD (l.map fun x => D.bl (f x))).map (f a :: ·) = _
    rw [bols_map f l]
    rfl
theorem rep_one (k : Nat) (d : D) : (List.replicate k [d]).flatten = List.replicate k d := by
  induction k with
  | zero => rfl
  | succ k ih => rw [List.replicate_succ, List.flatten_cons, ih]; rfl
theorem cut_all_to {xs : List D} {k : Nat} (h : xs.length ≤ k) : cutD xs none (some (k : Int)) = xs := by
  unfold cutD
  rw [HT.sIx_none, HT.sIx_nat, List.drop_zero, Nat.min_eq_right h, Nat.sub_zero, List.take_length]
theorem cut_take {xs : List D} {k : Nat} : cutD xs none (some (k : Int)) = xs.take k := by
  unfold cutD
  rw [HT.sIx_none, HT.sIx_nat, List.drop_zero, Nat.sub_zero]
  by_cases h : k ≤ xs.length
  · rw [Nat.min_eq_left h]
  · rw [Nat.min_eq_right (by omega), List.take_of_length_le (by omega), List.take_of_length_le (by omega)]
theorem cut_drop {xs : List D} {k : Nat} : cutD xs (some (k : Int)) none = xs.drop k := by
  unfold cutD
  rw [HT.sIx_none, HT.sIx_nat]
  by_cases h : k ≤ xs.length
  · rw [Nat.min_eq_left h, List.take_of_length_le (by rw [List.length_drop]; omega)]
  · rw [Nat.min_eq_right (by omega), List.drop_of_length_le (by omega), List.drop_of_length_le (by omega), List.take_nil]
theorem cut_tl (d : D) (xs : List D) : cutD (d :: xs) (some 1) none = xs := by
  have z := cut_drop (xs := d :: xs) (k := 1)
  exact z
theorem ints_map : ∀ ns : List Int, intsD (ns.map D.int) = some ns
  | [] => rfl
  | n :: ns => by
    show (intsD (ns.map D.int)).map (fun is => n :: is) = some (n :: ns)
    rw [ints_map ns]
    rfl
theorem lst_app {st : S} {n : Nat} {xs : List D} (os : List Ob) (h : lstAt st n = some xs) : lstAt (st ++ os) n = some xs := by
  unfold lstAt at h ⊢
  by_cases hn : n < st.length
  · rw [List.getElem?_append_left hn]
    exact h
  · rw [List.getElem?_eq_none (by omega)] at h
    cases h
theorem app_at {st : S} {k : Nat} {o : Ob} (h : st[k]? = some o) (os : List Ob) : (st ++ os)[k]? = some o := by
  rw [List.getElem?_append_left (List.getElem?_eq_some_iff.mp h).1]
  exact h
theorem set_last (st : S) (o o' : Ob) : (st ++ [o]).set st.length o' = st ++ [o'] := by
  rw [List.set_append_right _ _ (Nat.le_refl _)]
  simp
/-- a comprehension whose items leave the store as it is -/
theorem lcGo_map {chk : S → Bool} {g : FG} {fe : FE} {ρ : En} {F : D → D} : ∀ (ds acc : List D) (st0 : S), acc.length + ds.length < sizeLine → (∀ xs, chk (st0 ++ [.lst xs]) = true) →
    (∀ d ∈ ds, ∀ xs, ∃ ρ1, g d (st0 ++ [.lst xs]) ρ = some ρ1 ∧ fe ρ1 (st0 ++ [.lst xs]) = .ok (F d) (st0 ++ [.lst xs])) →
    lcGo chk g fYes fe ρ st0.length ds (st0 ++ [.lst acc]) = .ok (.loc st0.length) (st0 ++ [.lst (acc ++ ds.map F)])
  | [], acc, st0, hl, hc, hb => by
    unfold lcGo
    rw [if_pos (hc acc), List.map_nil, List.append_nil]
  | d :: ds, acc, st0, hl, hc, hb => by
    obtain ⟨ρ1, e1, e2⟩ := hb d List.mem_cons_self acc
    rw [List.length_cons] at hl
    unfold lcGo
    rw [if_pos (hc acc), e1]
    simp only [fYes_ap, e2, app_new]
    rw [if_pos (by omega), set_last, lcGo_map ds (acc ++ [F d]) st0 (by rw [List.length_append, List.length_singleton]; omega) hc (fun d' h' => hb d' (List.mem_cons_of_mem _ h'))]
    rw [List.map_cons, List.append_assoc]
    rfl
theorem fLc_map {own : List Nat} {fi : FI} {g : FG} {fe : FE} {ρ : En} {st st1 : S} {ds : List D} {chk : S → Bool} {F : D → D} (hi : fi ρ st = .ok (ds, chk) st1) (hl : ds.length < sizeLine) (hc : ∀ xs, chk (st1 ++ [.lst xs]) = true)
    (hb : ∀ d ∈ ds, ∀ xs, ∃ ρ1, g d (st1 ++ [.lst xs]) (wipeE ρ own) = some ρ1 ∧ fe ρ1 (st1 ++ [.lst xs]) = .ok (F d) (st1 ++ [.lst xs])) :
    fLc own fi g fYes fe ρ st = .ok (.loc st1.length) (st1 ++ [.lst (ds.map F)]) := by
  unfold fLc
  rw [hi]
  show lcGo _ _ _ _ _ _ _ _ = _
  rw [lcGo_map ds [] st1 (by simpa using hl) hc hb]
  rfl
/-- a loop whose turns only add to the store -/
theorem loop_app {i : Nat} {body : FS} {ρ0 : En} {chk : S → Bool} : ∀ (ds : List D) (s0 : S) (x : Option D), (∀ os, chk (s0 ++ os) = true) →
    (∀ d ∈ ds, ∀ os, ∃ os', body (ρ0.set i (some d)) (s0 ++ os) = .nx (ρ0.set i (some d)) (s0 ++ os ++ os')) →
    ∃ y os, sLoop chk (tgN i) body ds (ρ0.set i x) s0 = .nx (ρ0.set i y) (s0 ++ os)
  | [], s0, x, hc, hb => ⟨x, [], by rw [sLoop_nil, if_pos (by have := hc []; rwa [List.append_nil] at this), List.append_nil]⟩
  | d :: ds, s0, x, hc, hb => by
    obtain ⟨os1, e1⟩ := hb d List.mem_cons_self []
    rw [List.append_nil] at e1
    obtain ⟨y, os2, e2⟩ := loop_app (i := i) (body := body) (ρ0 := ρ0) (chk := chk) ds (s0 ++ os1) (some d) (fun os => by rw [List.append_assoc]; exact hc _) (fun d' h' os => by
      obtain ⟨os', e⟩ := hb d' (List.mem_cons_of_mem _ h') (os1 ++ os)
      rw [← List.append_assoc] at e
      exact ⟨os', e⟩)
    refine ⟨y, os1 ++ os2, ?_⟩
    unfold sLoop
    rw [if_pos (by have := hc []; rwa [List.append_nil] at this)]
    have t1 : tgN i d s0 (ρ0.set i x) = some (ρ0.set i (some d)) := by rw [tgN_ap, List.set_set]
    rw [t1]
    simp only [e1]
    rw [e2, List.append_assoc]
theorem set_mid (st os : S) (o o' : Ob) : (st ++ [o] ++ os).set st.length o' = st ++ [o'] ++ os := by
  rw [List.append_assoc, List.set_append_right _ _ (Nat.le_refl _)]
  simp
theorem at_mid (st os : S) (o : Ob) : (st ++ [o] ++ os)[st.length]? = some o := app_at app_new os
/-- a loop that appends one item a turn to the list laid behind st0 -/
theorem build_loop {i r : Nat} {fe : FE} {ρ0 : En} {st0 : S} {chk : S → Bool} (F : D → D) (hr : ∀ x, (ρ0.set i x)[r]? = some (some (.loc st0.length))) : ∀ (ds acc : List D) (os : List Ob) (x : Option D), acc.length + ds.length < sizeLine → (∀ xs os, chk (st0 ++ [.lst xs] ++ os) = true) →
    (∀ d ∈ ds, ∀ xs os, ∃ os', fe (ρ0.set i (some d)) (st0 ++ [.lst xs] ++ os) = .ok (F d) (st0 ++ [.lst xs] ++ (os ++ os'))) →
    ∃ y os', sLoop chk (tgN i) (sExpr (fLM gAppend (fVar r) (fCons fe fNil))) ds (ρ0.set i x) (st0 ++ [.lst acc] ++ os) = .nx (ρ0.set i y) (st0 ++ [.lst (acc ++ ds.map F)] ++ os')
  | [], acc, os, x, hl, hc, hb => ⟨x, os, by rw [sLoop_nil, if_pos (hc _ _), List.map_nil, List.append_nil]⟩
  | d :: ds, acc, os, x, hl, hc, hb => by
    obtain ⟨os1, e1⟩ := hb d List.mem_cons_self acc os
    rw [List.length_cons] at hl
    obtain ⟨y, os2, e2⟩ := build_loop (chk := chk) F hr ds (acc ++ [F d]) (os ++ os1) (some d) (by rw [List.length_append, List.length_singleton]; omega) hc (fun d' h' => hb d' (List.mem_cons_of_mem _ h'))
    refine ⟨y, os2, ?_⟩
    have t1 : tgN i d (st0 ++ [.lst acc] ++ os) (ρ0.set i x) = some (ρ0.set i (some d)) := by rw [tgN_ap, List.set_set]
    have b1 : (sExpr (fLM gAppend (fVar r) (fCons fe fNil))) (ρ0.set i (some d)) (st0 ++ [.lst acc] ++ os) = .nx (ρ0.set i (some d)) (st0 ++ [.lst (acc ++ [F d])] ++ (os ++ os1)) := by
      have g := gAppend_loc (d := F d) (at_mid st0 (os ++ os1) (.lst acc)) (by omega)
      rw [set_mid] at g
      simp only [sExpr_ap, fLM_ap, fVar_ap, hr, Out.bind_ok, lstAt_lst (at_mid st0 os (.lst acc)), fCons_ap, e1, fNil_ap, g, ofO, Out.so_ok]
    unfold sLoop
    rw [if_pos (hc _ _), t1]
    simp only [b1]
    rw [e2, List.map_cons, List.append_assoc acc]
    rfl
end MP

set_option Elab.async false
set_option linter.all false
set_option maxRecDepth 100000
set_option maxHeartbeats 4000000
/-! MPL9: loops that leave the store as it is. -/
namespace MP
open PySem
theorem loop_keep {i : Nat} {body : FS} {ρ0 : En} {chk : S → Bool} {s0 : S} (hc : chk s0 = true) : ∀ (ds : List D) (x : Option D),
    (∀ d ∈ ds, body (ρ0.set i (some d)) s0 = .nx (ρ0.set i (some d)) s0) → ∃ y, sLoop chk (tgN i) body ds (ρ0.set i x) s0 = .nx (ρ0.set i y) s0
  | [], x, hb => ⟨x, by rw [sLoop_nil, if_pos hc]⟩
  | d :: ds, x, hb => by
    have e1 := hb d List.mem_cons_self
    obtain ⟨y, e2⟩ := loop_keep (i := i) (body := body) (ρ0 := ρ0) (chk := chk) hc ds (some d) (fun d' h' => hb d' (List.mem_cons_of_mem _ h'))
    refine ⟨y, ?_⟩
    have t1 : tgN i d s0 (ρ0.set i x) = some (ρ0.set i (some d)) := by rw [tgN_ap, List.set_set]
    unfold sLoop
    rw [if_pos hc, t1]
    simp only [e1]
    exact e2
/-! ### steps as terms -/
section
variable {ρ ρ1 : En} {st st1 st2 st3 : S} {d x y : D} {ds : List D} {a b e : FE} {r A : FA} {t u : FT} {f g : FS} {o : SO} {v w : Bool}
theorem v_ok {i : Nat} (h : ρ[i]? = some (some d)) : fVar i ρ st = .ok d st := by rw [fVar_ap, h]
theorem c_ok : fC d ρ st = .ok d st := rfl
theorem nil_ok : fNil ρ st = .ok [] st := rfl
theorem cons_ok (h1 : a ρ st = .ok d st1) (h2 : r ρ st1 = .ok ds st2) : fCons a r ρ st = .ok (d :: ds) st2 := by rw [fCons_ap, h1, Out.bind_ok, h2]; rfl
theorem call_ok {G : List D → S → Out D} (h1 : A ρ st = .ok ds st1) (h2 : G ds st1 = .ok d st2) : fCall G A ρ st = .ok d st2 := by rw [fCall_ap, h1]; exact h2
theorem args_ok {G : List D → S → Option (D × S)} (h1 : A ρ st = .ok ds st1) (h2 : G ds st1 = some (d, st2)) : fArgs G A ρ st = .ok d st2 := by rw [fArgs_ap, h1, Out.bind_ok, h2]; rfl
theorem bin_ok {G : D → D → S → Option (D × S)} (h1 : a ρ st = .ok x st1) (h2 : b ρ st1 = .ok y st2) (h3 : G x y st2 = some (d, st3)) : fBin G a b ρ st = .ok d st3 := by rw [fBin_ap, h1, Out.bind_ok, h2, Out.bind_ok, h3]; rfl
theorem un_ok {G : D → S → Option (D × S)} (h1 : a ρ st = .ok x st1) (h3 : G x st1 = some (d, st2)) : fUn G a ρ st = .ok d st2 := by rw [fUn_ap, h1, Out.bind_ok, h3]; rfl
theorem tup_ok (h : A ρ st = .ok ds st1) : fTup A ρ st = .ok (.tup ds) st1 := by rw [fTup_ap, h]; rfl
theorem lst_ok (h : A ρ st = .ok ds st1) : fLst A ρ st = .ok (.loc st1.length) (st1 ++ [.lst ds]) := by rw [fLst_ap, h]; rfl
theorem set_ok {i : Nat} (h : e ρ st = .ok d st1) : sSet i e ρ st = .nx (ρ.set i (some d)) st1 := by rw [sSet_ap, h]; rfl
theorem ret_ok (h : e ρ st = .ok d st1) : sRet e ρ st = .rt d st1 := by rw [sRet_ap, h]; rfl
theorem seq_nx (h1 : f ρ st = .nx ρ1 st1) (h2 : g ρ1 st1 = o) : sSeq f g ρ st = o := by rw [sSeq_ap, h1, then_nx, h2]
theorem if_t (h1 : t ρ st = .ok true st1) (h2 : f ρ st1 = o) : sIf t f g ρ st = o := by rw [sIf_ap, h1, Out.so_ok, if_pos rfl, h2]
theorem if_f (h1 : t ρ st = .ok false st1) (h2 : g ρ st1 = o) : sIf t f g ρ st = o := by rw [sIf_ap, h1, Out.so_ok, if_neg Bool.false_ne_true, h2]
theorem isb_ok (h : e ρ st = .ok (.bl v) st1) : fIsB e ρ st = .ok v st1 := by rw [fIsB_ap, h]; rfl
theorem tru_ok (h : e ρ st = .ok (.bl v) st1) : fTru e ρ st = .ok v st1 := by rw [fTru_ap, h]; rfl
theorem not_ok (h : t ρ st = .ok v st1) : fNot t ρ st = .ok (!v) st1 := by rw [fNot_ap, h]; rfl
theorem or_f (h1 : t ρ st = .ok false st1) (h2 : u ρ st1 = .ok v st2) : fOr t u ρ st = .ok v st2 := by rw [fOr_ap, h1, Out.bind_ok, if_neg Bool.false_ne_true, h2]
theorem or_t (h1 : t ρ st = .ok true st1) : fOr t u ρ st = .ok true st1 := by rw [fOr_ap, h1, Out.bind_ok, if_pos rfl]
theorem and_t (h1 : t ρ st = .ok true st1) (h2 : u ρ st1 = .ok v st2) : fAnd t u ρ st = .ok v st2 := by rw [fAnd_ap, h1, Out.bind_ok, if_pos rfl, h2]
theorem and_f (h1 : t ρ st = .ok false st1) : fAnd t u ρ st = .ok false st1 := by rw [fAnd_ap, h1, Out.bind_ok, if_neg Bool.false_ne_true]
/-- if not E: return False -/
theorem ifn_ok (h : e ρ st = .ok (.bl true) st1) : sIf (fNot (fTru e)) (sRet (fC (.bl false))) sSkip ρ st = .nx ρ st1 := if_f (not_ok (tru_ok h)) rfl
/-- if not E1 or not E2: return False -/
theorem ifn2_ok (h : a ρ st = .ok (.bl true) st1) (h2 : b ρ st1 = .ok (.bl true) st2) : sIf (fOr (fNot (fTru a)) (fNot (fTru b))) (sRet (fC (.bl false))) sSkip ρ st = .nx ρ st2 :=
  if_f (or_f (not_ok (tru_ok h)) (not_ok (tru_ok h2))) rfl
end
/-- a def's body has come to its end -/
theorem den_end {n k : Nat} {f : FS} {ds : List D} {st st' : S} {d : D} (hn : ds.length = n) (h : f (ds.map some ++ List.replicate (k - ds.length) none) st = .rt d st') : arN n (den k f) ds st = .ok d st' := by
  unfold arN
  rw [if_pos hn, den_ap, h]
  rfl
end MP

set_option Elab.async false
set_option linter.all false
set_option maxRecDepth 100000
set_option maxHeartbeats 4000000
namespace K03
open PySem MP
/-! ### fractions -/
abbrev fr (p q : Int) : D := .tup [.int p, .int q]
def gi (p q : Int) : Int := ((Nat.gcd p.natAbs q.natAbs : Nat) : Int)
/-- in lowest terms, q positive -/
def low (p q : Int) : D := fr (p / gi p q) (q / gi p q)
/-- not too large -/
def Sm (x : Int) : Prop := x.natAbs < 2 ^ 8000
theorem gi_pos {p q : Int} (hq : 0 < q) : 0 < gi p q := by
  unfold gi
  have : 0 < Nat.gcd p.natAbs q.natAbs := Nat.gcd_pos_of_pos_right _ (by omega)
  omega
theorem gi_le {p q : Int} (hq : 0 < q) : gi p q ≤ q := by
  unfold gi
  have := Nat.gcd_le_right p.natAbs (n := q.natAbs) (by omega)
  omega
theorem gi_dvd_l (p q : Int) : gi p q ∣ p := by
  unfold gi
  exact Int.ofNat_dvd_left.mpr (Nat.gcd_dvd_left _ _)
theorem gi_dvd_r (p q : Int) : gi p q ∣ q := by
  unfold gi
  exact Int.ofNat_dvd_left.mpr (Nat.gcd_dvd_right _ _)
theorem divok_gi {p q : Int} (hq : 0 < q) (h : Sm q) : DivOk (gi p q) := by
  refine divok_small (gi_pos hq) ?_
  have := gi_le (p := p) hq
  have := gi_pos (p := p) hq
  unfold Sm at h
  omega
theorem gi_neg (p q : Int) : gi (-p) (-q) = gi p q := by unfold gi; simp
/-! ### the program's arithmetic -/
theorem ratio_pos {p q : Int} (hq : 0 < q) (hs : Sm q) (st : S) : den 3 m_ratio [.int p, .int q] st = .ok (low p q) st := by
  have h0 : q ≠ 0 := by omega
  have h1 : ¬ q < 0 := by omega
  have hd := divok_gi (p := p) hq hs
  unfold gi at hd
  rw [den_ap]
  simp [m_ratio, h0, h1, hd, low, gi]
theorem ratio_neg {p q : Int} (hq : q < 0) (hs : Sm q) (st : S) : den 3 m_ratio [.int p, .int q] st = .ok (low (-p) (-q)) st := by
  have h0 : q ≠ 0 := by omega
  have hd := divok_gi (p := -p) (q := -q) (by omega) (by unfold Sm at *; omega)
  unfold gi at hd
  simp only [Int.natAbs_neg] at hd
  rw [den_ap]
  simp [m_ratio, h0, hq, hd, low, gi]
theorem ratio_zero {p : Int} (st : S) : den 3 m_ratio [.int p, .int 0] st = .exc ⟨"BadNumber", st.length⟩ (st ++ [.xd [(("value" : Str), .int 0)]]) := by
  rw [den_ap]
  simp [m_ratio]
theorem mm {x y : Int} (hx : Sm x) (hy : Sm y) : MulOk x y := mulok_small (by unfold Sm at hx; exact Nat.lt_trans hx (Nat.pow_lt_pow_right (by decide) (by decide))) (by unfold Sm at hy; exact Nat.lt_trans hy (Nat.pow_lt_pow_right (by decide) (by decide)))
section
variable {p q r s : Int} (hq : 0 < q) (hs : 0 < s) (hp : Sm p) (hr : Sm r) (h1 : Sm q) (h2 : Sm s) (st : S)
include hq hs hp hr h1 h2
theorem plus_ok (h3 : Sm (q * s)) : g_plus [fr p q, fr r s] st = .ok (low (p * s + r * q) (q * s)) st := by
  have e := ratio_pos (p := p * s + r * q) (q := q * s) (Int.mul_pos hq hs) h3 st
  simp [g_plus, arN, den_ap 2, m_plus, mm hp h2, mm hr h1, mm h1 h2, g_ratio, withD, e]
theorem minus_ok (h3 : Sm (q * s)) : g_minus [fr p q, fr r s] st = .ok (low (p * s - r * q) (q * s)) st := by
  have e := ratio_pos (p := p * s - r * q) (q := q * s) (Int.mul_pos hq hs) h3 st
  simp [g_minus, arN, den_ap 2, m_minus, mm hp h2, mm hr h1, mm h1 h2, g_ratio, withD, e]
theorem times_ok (h3 : Sm (q * s)) : g_times [fr p q, fr r s] st = .ok (low (p * r) (q * s)) st := by
  have e := ratio_pos (p := p * r) (q := q * s) (Int.mul_pos hq hs) h3 st
  simp [g_times, arN, den_ap 2, m_times, mm hp hr, mm h1 h2, g_ratio, withD, e]
end
/-! ### looking -/
theorem is_ok {p q r s : Int} (st : S) : g__law_is [fr p q, fr r s] st = .ok (.bl (decide (p = r) && decide (q = s))) st := by
  by_cases c1 : p = r <;> simp [g__law_is, arN, den_ap, m__law_is, g__law_integer, m__law_integer, c1]
theorem is_number_ok {p q : Int} (st : S) : g_is_number [fr p q] st = .ok (.bl (decide (1 ≤ q) && decide (gi p q = 1))) st := by
  by_cases c1 : 1 ≤ q
  · simp [g_is_number, arN, den_ap, m_is_number, g__is_integer, m__is_integer, tgTup, tgAll, c1, gi]
    try congr
  · simp [g_is_number, arN, den_ap, m_is_number, g__is_integer, m__is_integer, tgTup, tgAll, c1]
end K03

set_option Elab.async false
set_option linter.all false
set_option maxRecDepth 100000
set_option maxHeartbeats 4000000
namespace K03
open PySem MP
def fib : Nat → Nat
  | 0 => 0
  | 1 => 1
  | n + 2 => fib n + fib (n + 1)
def fibp : Nat → Nat × Nat
  | 0 => (0, 1)
  | n + 1 => ((fibp n).2, (fibp n).1 + (fibp n).2)
theorem fibp_eq : ∀ n, fibp n = (fib n, fib (n + 1))
  | 0 => rfl
  | n + 1 => by
    unfold fibp
    rw [fibp_eq n]
    rfl
def fibq : Nat → Nat → Nat → Nat
  | 0, a, _ => a
  | n + 1, a, b => fibq n b (a + b)
theorem fibq_eq : ∀ n k, fibq n (fib k) (fib (k + 1)) = fib (n + k)
  | 0, k => by rw [Nat.zero_add]; rfl
  | n + 1, k => by
    have h : fib k + fib (k + 1) = fib (k + 2) := rfl
    unfold fibq
    rw [h, fibq_eq n (k + 1)]
    congr 1
    omega
abbrev T40 : Nat := 10 ^ 40
theorem fib_big : (10 ^ 40) ^ 15 < fib 2990 := by
  have h := fibq_eq 2990 0
  rw [Nat.add_zero] at h
  rw [← h]
  decide +kernel
/-- the loop's body -/
abbrev db : FS := sSeq (sIf (fIsB (fBin gEq (fVar 1) (fC (.int 0)))) (sBreak) (sSkip))
  (sPar 0 1 (fCons (fVar 1) (fCons (fBin gMod (fArgs gInt (fCons (fVar 0) (fNil))) (fVar 1)) (fNil))))
theorem div_loop (st : S) : ∀ (ds : List D) (a b : Nat) (x : Option D), b < a → (b < fib (ds.length + 1) ∨ a < fib (ds.length + 2)) →
    ∃ y, sLoop (fun _ => true) (tgN 2) db ds [some (.int a), some (.int b), x] st = .nx [some (.int (Nat.gcd a b : Nat)), some (.int 0), y] st
  | [], a, b, x, h, hf => by
    have hb : b = 0 := by
      rcases hf with hf | hf
      · have : b < 1 := hf
        omega
      · have : a < 1 := hf
        omega
    subst hb
    exact ⟨x, by simp [sLoop]⟩
  | d :: ds, a, b, x, h, hf => by
    by_cases hb : b = 0
    · subst hb
      exact ⟨some d, by simp [sLoop]⟩
    · have hr : a % b < b := Nat.mod_lt _ (by omega)
      have hab : b + a % b ≤ a := by
        have h1 := Nat.div_add_mod a b
        have h2 : 1 ≤ a / b := Nat.div_pos (by omega) (by omega)
        have h3 : b * 1 ≤ b * (a / b) := Nat.mul_le_mul_left b h2
        omega
      have hf2 : a % b < fib (ds.length + 1) ∨ b < fib (ds.length + 2) := by
        rcases hf with hf | hf
        · exact .inr hf
        · have hf : a < fib (ds.length + 1) + fib (ds.length + 2) := hf
          by_cases c : b < fib (ds.length + 2)
          · exact .inr c
          · exact .inl (by omega)
      obtain ⟨y, hy⟩ := div_loop st ds b (a % b) (some d) hr hf2
      refine ⟨y, ?_⟩
      have e : ((a : Int) % (b : Int)) = ((a % b : Nat) : Int) := by omega
      have hbp : 0 < b := by omega
      rw [show Nat.gcd a b = Nat.gcd b (a % b) from by rw [Nat.gcd_comm a b, Nat.gcd_rec b a, Nat.gcd_comm]]
      rw [← e] at hy
      rw [← hy]
      conv => lhs; unfold sLoop
      simp [hb, hbp]
theorem divisor_ok {a b : Nat} (hb : 0 < b) (hs : b < (10 ^ 40) ^ 15) (st : S) : g__law_divisor [.int a, .int b] st = .ok (.int (Nat.gcd a b : Nat)) st := by
  have h0 : (rangeD 0 3000) = .int 0 :: (List.range 2999).map (fun i => D.int (1 + (i : Nat))) := by
    unfold rangeD
    have : ((3000 : Int) - 0).toNat = 2999 + 1 := by decide
    rw [this, List.range_succ_eq_map, List.map_cons, List.map_map]
    refine congrArg (List.cons _) (List.map_congr_left fun i _ => ?_)
    show D.int (0 + ((i + 1 : Nat) : Int)) = D.int (1 + (i : Int))
    refine congrArg D.int ?_
    omega
  have hr : a % b < b := Nat.mod_lt _ hb
  have e : ((a : Int) % (b : Int)) = ((a % b : Nat) : Int) := by omega
  have hbi : b ≠ 0 := by omega
  have hbp : 0 < b := by omega
  obtain ⟨y, hy⟩ := div_loop st ((List.range 2999).map (fun i => D.int (1 + (i : Nat)))) b (a % b) (some (.int 0)) hr (.inr (by
    rw [List.length_map, List.length_range]
    have h1 := fib_big
    have h2 : fib 2990 ≤ fib 3001 := by
      have m : ∀ n, fib n ≤ fib (n + 1) := fun n => by
        cases n with
        | zero => exact Nat.zero_le _
        | succ n => exact Nat.le_add_left _ _
      have m2 : ∀ k n, fib n ≤ fib (n + k) := fun k n => by
        induction k with
        | zero => exact Nat.le_refl _
        | succ k ih => exact Nat.le_trans ih (m _)
      exact m2 11 2990
    exact Nat.lt_of_lt_of_le (Nat.lt_trans hs h1) h2))
  have hsm : Small62 3000 := by decide
  have hl : sLoop (fun _ => true) (tgN 2) db (rangeD 0 3000) [some (.int a), some (.int b), none] st = .nx [some (.int (Nat.gcd a b : Nat)), some (.int 0), y] st := by
    rw [h0, show Nat.gcd a b = Nat.gcd b (a % b) from by rw [Nat.gcd_comm a b, Nat.gcd_rec b a, Nat.gcd_comm]]
    rw [← e] at hy
    rw [← hy]
    conv => lhs; unfold sLoop
    simp [hbi, hbp]
  unfold g__law_divisor arN
  rw [if_pos (show [D.int a, D.int b].length = 2 from rfl), den_ap]
  simp only [m__law_divisor, sSeq_ap, sForR1, List.map_cons, List.map_nil, fCons_ap, fNil_ap, fC_ap, Out.bind_ok, Out.so_ok, if_pos hsm]
  show ((sLoop (fun _ => true) (tgN 2) db (rangeD 0 3000) [some (.int a), some (.int b), none] st).then_ _).out = _
  rw [hl]
  simp
theorem lowest_ok {p q : Int} (hq : 0 < q) (hs : q < (10 ^ 40) ^ 15) (st : S) : g__law_lowest [.int p, .int q] st = .ok (low p q) st := by
  have eq : q = ((q.natAbs : Nat) : Int) := by omega
  have hsm : Sm q := by
    unfold Sm
    have : q.natAbs < (10 ^ 40) ^ 15 := by omega
    exact Nat.lt_trans this (by decide +kernel)
  have hd := divok_gi (p := p) hq hsm
  have h := divisor_ok (a := p.natAbs) (b := q.natAbs) (by omega) (by omega) st
  rw [← eq] at h
  unfold gi at hd
  simp [g__law_lowest, absI, arN, den_ap, m__law_lowest, h, hd, low, gi]
end K03

set_option Elab.async false
set_option linter.all false
set_option maxRecDepth 100000
set_option maxHeartbeats 4000000
namespace K03
open PySem MP
def Bag (st : S) (b : Nat) : Prop := ∃ (x y : Int) (r : List Int), st[b]? = some (.lst (.int x :: .int y :: r.map D.int))
structure Ext (b : Nat) (st st' : S) : Prop where
  bag : Bag st' b
  len : st.length ≤ st'.length
  keep : ∀ k o, k ≠ b → st[k]? = some o → st'[k]? = some o
theorem Ext.refl {b : Nat} {st : S} (h : Bag st b) : Ext b st st := ⟨h, Nat.le_refl _, fun _ _ _ e => e⟩
theorem Ext.trans {b : Nat} {s1 s2 s3 : S} (h : Ext b s1 s2) (g : Ext b s2 s3) : Ext b s1 s3 := ⟨g.bag, Nat.le_trans h.len g.len, fun k o n e => g.keep k o n (h.keep k o n e)⟩
theorem Ext.app {b : Nat} {s1 s2 : S} (h : Ext b s1 s2) (o : Ob) : Ext b s1 (s2 ++ [o]) := by
  obtain ⟨x, y, r, e⟩ := h.bag
  exact ⟨⟨x, y, r, app_old e⟩, by rw [List.length_append]; exact Nat.le_trans h.len (Nat.le_add_right _ _), fun k o n e => app_old (h.keep k o n e)⟩
theorem Ext.set {b : Nat} {s1 : S} {x y : Int} {r : List Int} {o : Ob} (h : s1[b]? = some o) : Ext b s1 (s1.set b (.lst (.int x :: .int y :: r.map D.int))) :=
  ⟨⟨x, y, r, set_at (lt_of_at h)⟩, by simp, fun k o n e => by rw [set_ne n]; exact e⟩
theorem Ext.at_ {b k : Nat} {s1 s2 : S} {o : Ob} (h : Ext b s1 s2) (n : k ≠ b) (e : s1[k]? = some o) : s2[k]? = some o := h.keep k o n e
theorem mixed_ok (c t : Int) (st : S) : ∃ v, g__law_mixed [.int c, .int t] st = .ok (.int v) st := by
  have h1 : MulOk c 48271 := mulok_r (by decide) (by decide)
  have h2 : MulOk t 69621 := mulok_r (by decide) (by decide)
  have h3 : MulOk t 7919 := mulok_r (by decide) (by decide)
  have e : ∀ f : Int, 0 ≤ f → f < 2147483647 → MulOk f f := fun f h1 h2 => mulok_r (by omega) (by omega)
  have f0 : 0 ≤ (c * 48271 + t * 69621 + 12345) % 2147483647 := Int.emod_nonneg _ (by decide)
  have f1 : (c * 48271 + t * 69621 + 12345) % 2147483647 < 2147483647 := Int.emod_lt_of_pos _ (by decide)
  have h4 := e _ f0 f1
  have h5 : ∀ f : Int, MP.MulOk f 16807 := fun f => mulok_r (by decide) (by decide)
  have h6 : ∀ f : Int, MP.MulOk f 39373 := fun f => mulok_r (by decide) (by decide)
  have d7 : DivOk 7 := by decide
  have d16 : DivOk 16 := by decide
  simp [g__law_mixed, arN, den_ap, m__law_mixed, h1, h2, h3, h4, h5, h6, d7, d16]
theorem take_ok {st : S} {b : Nat} {m : Int} (hb : Bag st b) (hm : 0 < m) (hd : DivOk m) : ∃ r st', g__law_take [.loc b, .int m] st = .ok (.int r) st' ∧ 0 ≤ r ∧ r < m ∧ Ext b st st' := by
  obtain ⟨x, y, r, e⟩ := hb
  have hl := lstAt_lst e
  have lb := lt_of_at e
  have s1 : gStore (.loc b) (.int 0) (.int (x + 1)) st = some (st.set b (.lst (.int (x + 1) :: .int y :: r.map D.int))) := gStore_loc (k := 0) (j := 0) e (by simp)
  have e1 : (st.set b (.lst (.int (x + 1) :: .int y :: r.map D.int)))[b]? = some (.lst (.int (x + 1) :: .int y :: r.map D.int)) := set_at lb
  have l1 := lstAt_lst e1
  have md : ∀ v : Int, 0 ≤ v % m ∧ v % m < m := fun v => ⟨Int.emod_nonneg _ (by omega), Int.emod_lt_of_pos _ hm⟩
  cases r with
  | nil =>
    obtain ⟨v, hv⟩ := mixed_ok y (x + 1) (st.set b (.lst [.int (x + 1), .int y]))
    simp only [List.map_nil] at s1 e1 l1
    refine ⟨v % m, st.set b (.lst [.int (x + 1), .int y]), ?_, (md v).1, (md v).2, Ext.set (r := []) e⟩
    simp [g__law_take, arN, den_ap, m__law_take, gIx_loc _ _ hl, s1, gLen_loc _ l1, gIx_loc _ _ l1, hv, hm]
  | cons c r =>
    have nl : ¬ ((((r.length : Nat) : Int) + 1 + 1 + 1) < 3) := by omega
    simp only [List.map_cons] at s1 e1 l1
    by_cases hc : c < 0
    · have p2 : gPop (.loc b) [.int 2] (st.set b (.lst (.int (x + 1) :: .int y :: .int c :: r.map D.int))) = some (.int c, (st.set b (.lst (.int (x + 1) :: .int y :: .int c :: r.map D.int))).set b (.lst (.int (x + 1) :: .int y :: r.map D.int))) :=
        gPop_at (j := 2) e1 (by decide) (by unfold seqIndex?; simp; omega) (by simp)
      rw [List.set_set] at p2
      have e2 : (st.set b (.lst (.int (x + 1) :: .int y :: r.map D.int)))[b]? = some (.lst (.int (x + 1) :: .int y :: r.map D.int)) := set_at lb
      have l2 := lstAt_lst e2
      obtain ⟨v, hv⟩ := mixed_ok (-1 - c) (x + 1) (st.set b (.lst (.int (x + 1) :: .int y :: r.map D.int)))
      refine ⟨v % m, st.set b (.lst (.int (x + 1) :: .int y :: r.map D.int)), ?_, (md v).1, (md v).2, Ext.set e⟩
      simp [g__law_take, arN, den_ap, m__law_take, gIx_loc _ _ hl, s1, gLen_loc _ l1, gIx_loc _ _ l1, nl, hc, l1, p2, gIx_loc _ _ l2, hv, hm]
    · have s2 : gStore (.loc b) (.int 2) (.int (c / m)) (st.set b (.lst (.int (x + 1) :: .int y :: .int c :: r.map D.int))) = some ((st.set b (.lst (.int (x + 1) :: .int y :: .int c :: r.map D.int))).set b (.lst (.int (x + 1) :: .int y :: .int (c / m) :: r.map D.int))) :=
        gStore_loc (k := 2) (j := 2) e1 (by simp)
      rw [List.set_set] at s2
      have e2 : (st.set b (.lst (.int (x + 1) :: .int y :: .int (c / m) :: r.map D.int)))[b]? = some (.lst (.int (x + 1) :: .int y :: .int (c / m) :: r.map D.int)) := set_at lb
      have l2 := lstAt_lst e2
      by_cases hz : c / m = 0
      · have p2 : gPop (.loc b) [.int 2] (st.set b (.lst (.int (x + 1) :: .int y :: .int (c / m) :: r.map D.int))) = some (.int (c / m), (st.set b (.lst (.int (x + 1) :: .int y :: .int (c / m) :: r.map D.int))).set b (.lst (.int (x + 1) :: .int y :: r.map D.int))) :=
          gPop_at (j := 2) e2 (by decide) (by unfold seqIndex?; simp; omega) (by simp)
        rw [List.set_set] at p2
        refine ⟨c % m, st.set b (.lst (.int (x + 1) :: .int y :: r.map D.int)), ?_, (md c).1, (md c).2, Ext.set e⟩
        rw [hz] at s2 l2 p2
        simp [g__law_take, arN, den_ap, m__law_take, gIx_loc _ _ hl, s1, gLen_loc _ l1, gIx_loc _ _ l1, nl, hc, hd, hz, s2, gIx_loc _ _ l2, l2, p2, hm]
      · refine ⟨c % m, st.set b (.lst (.int (x + 1) :: .int y :: .int (c / m) :: r.map D.int)), ?_, (md c).1, (md c).2, Ext.set (r := c / m :: r) e⟩
        simp [g__law_take, arN, den_ap, m__law_take, gIx_loc _ _ hl, s1, gLen_loc _ l1, gIx_loc _ _ l1, nl, hc, hd, hz, s2, gIx_loc _ _ l2, l2, hm]
end K03

set_option Elab.async false
set_option linter.all false
set_option maxRecDepth 100000
set_option maxHeartbeats 4000000
namespace K03
open PySem MP
/-- a number of the row -/
structure Nu (p q : Int) : Prop where
  pos : 0 < q
  red : gi p q = 1
  top : -(10 ^ 40) < p ∧ p < 10 ^ 40
  bot : q < 10 ^ 40
def Nm (d : D) : Prop := ∃ p q : Int, d = fr p q ∧ Nu p q
theorem gi_mul {g p q : Int} (hg : 0 < g) : gi (g * p) (g * q) = g * gi p q := by
  unfold gi
  rw [Int.natAbs_mul, Int.natAbs_mul, Nat.gcd_mul_left, Int.natCast_mul]
  congr 1
  omega
theorem low_spec {p q : Int} (hq : 0 < q) : ∃ g p' q', 0 < g ∧ p = g * p' ∧ q = g * q' ∧ 0 < q' ∧ gi p' q' = 1 ∧ low p q = fr p' q' := by
  have hg := gi_pos (p := p) hq
  obtain ⟨p', hp⟩ := gi_dvd_l p q
  obtain ⟨q', hq'⟩ := gi_dvd_r p q
  have hq0 : 0 < q' := by
    rcases Int.lt_trichotomy q' 0 with h | h | h
    · have := Int.mul_neg_of_pos_of_neg hg h
      omega
    · subst h
      rw [Int.mul_zero] at hq'
      omega
    · exact h
  refine ⟨gi p q, p', q', hg, hp, hq', hq0, ?_, ?_⟩
  · have e := gi_mul (p := p') (q := q') hg
    rw [← hp, ← hq'] at e
    have : gi p q * 1 = gi p q * gi p' q' := by rw [Int.mul_one]; exact e
    exact (Int.eq_of_mul_eq_mul_left (by omega) this).symm
  · show fr (p / gi p q) (q / gi p q) = fr p' q'
    have h1 : p / gi p q = p' := by
      conv => lhs; arg 1; rw [hp]
      exact Int.mul_ediv_cancel_left _ (by omega)
    have h2 : q / gi p q = q' := by
      conv => lhs; arg 1; rw [hq']
      exact Int.mul_ediv_cancel_left _ (by omega)
    rw [h1, h2]
theorem low_id {p q : Int} (h : gi p q = 1) : low p q = fr p q := by unfold low; rw [h, Int.ediv_one, Int.ediv_one]
theorem low_scale {g p q : Int} (hg : 0 < g) : low (g * p) (g * q) = low p q := by
  unfold low
  rw [gi_mul hg, Int.mul_ediv_mul_of_pos _ _ hg, Int.mul_ediv_mul_of_pos _ _ hg]
theorem low_nm {p q : Int} (hq : 0 < q) (h1 : -(10 ^ 40) < p) (h2 : p < 10 ^ 40) (h3 : q < 10 ^ 40) : Nm (low p q) := by
  obtain ⟨g, p', q', hg, ep, eq, hq', hr, e⟩ := low_spec (p := p) hq
  refine ⟨p', q', e, hq', hr, ?_, ?_⟩
  · have a : p'.natAbs ≤ p.natAbs := by
      rw [ep, Int.natAbs_mul]
      exact Nat.le_mul_of_pos_left _ (by omega)
    omega
  · have a : q'.natAbs ≤ q.natAbs := by
      rw [eq, Int.natAbs_mul]
      exact Nat.le_mul_of_pos_left _ (by omega)
    omega
theorem nm_one {p : Int} (h1 : -(10 ^ 40) < p) (h2 : p < 10 ^ 40) : Nm (fr p 1) := ⟨p, 1, rfl, by decide, by unfold gi; simp, ⟨h1, h2⟩, by decide⟩
theorem low_ok {p q : Int} (hq : 0 < q) (h1 : q < 10 ^ 40) (st : S) : g__law_lowest [.int p, .int q] st = .ok (low p q) st := lowest_ok hq (Int.lt_trans h1 (by decide +kernel)) st
theorem large_ok {st : S} {b : Nat} (hb : Bag st b) : ∃ v st', g__law_large [.loc b] st = .ok (.int v) st' ∧ 0 ≤ v ∧ v < 10 ^ 40 ∧ Ext b st st' := by
  have dk : DivOk 100000000 := by decide
  have hsm : Small62 5 := by decide
  obtain ⟨ρ', st', h1, v, x, h2, h3, h4, h5⟩ := loop_inv (chk := fun _ => true) (t := tgN 2)
    (body := sSet 1 (fBin gAdd (fBin gMul (fVar 1) (fC (.int 100000000))) (fCall g__law_take (fCons (fVar 0) (fCons (fC (.int 100000000)) (fNil))))))
    (I := fun don ds ρ s => ∃ (v : Int) (x : Option D), ρ = [some (.loc b), some (.int v), x] ∧ 0 ≤ v ∧ v < 100000000 ^ don.length ∧ Ext b st s)
    (fun don d ds ρ s ⟨v, x, e, h0, h1, hx⟩ => by
      subst e
      obtain ⟨r, s', hr, r0, r1, xr⟩ := take_ok hx.bag (by decide) dk
      have mk : MP.MulOk v 100000000 := mulok_r (by decide) (by decide)
      refine ⟨rfl, _, rfl, [some (.loc b), some (.int (v * 100000000 + r)), some d], s', .inl ?_, v * 100000000 + r, some d, rfl, by omega, ?_, hx.trans xr⟩
      · simp [mk, hr]
      · rw [List.length_append, List.length_singleton, Int.pow_succ]
        generalize (100000000 : Int) ^ don.length = z at h1
        omega)
    (fun _ _ _ _ => rfl) (rangeD 0 5) [] [some (.loc b), some (.int 0), none] st ⟨0, none, rfl, by decide, by decide, Ext.refl hb⟩
  refine ⟨v, st', ?_, h3, ?_, h5⟩
  · subst h2
    unfold g__law_large arN
    rw [if_pos (show [D.loc b].length = 1 from rfl), den_ap]
    simp only [m__law_large, sSeq_ap, sSet_ap, fC_ap, Out.so_ok, then_nx, sForR1, fCons_ap, fNil_ap, Out.bind_ok, if_pos hsm]
    show ((sLoop _ _ _ (rangeD 0 5) [some (.loc b), some (.int 0), none] st).then_ _).out = _
    rw [h1]
    simp
  · have e : ([] ++ rangeD 0 5 : List D).length = 5 := rfl
    rw [e] at h4
    exact Int.lt_of_lt_of_le h4 (by decide)
end K03

set_option Elab.async false
set_option linter.all false
set_option maxRecDepth 100000
set_option maxHeartbeats 4000000
namespace K03
open PySem MP
noncomputable def besT : FS :=
  sSeq (sIf (fIsB (fBin gEq (fVar 2) (fC (.int 8)))) (sRet (fVar 4)) (sSkip))
  (sSeq (sIf (fIsB (fBin gEq (fVar 2) (fC (.int 9)))) (sRet (fTup (fCons (fUn gNeg (fBin gIx (fVar 4) (fC (.int 0)))) (fCons (fBin gIx (fVar 4) (fC (.int 1))) (fNil))))) (sSkip))
  (sSeq (sIf (fAnd (fIsB (fBin gEq (fVar 2) (fC (.int 10)))) (fIsB (fBin gGt (fBin gIx (fVar 4) (fC (.int 0))) (fC (.int 0))))) (sRet (fTup (fCons (fBin gIx (fVar 4) (fC (.int 1))) (fCons (fBin gIx (fVar 4) (fC (.int 0))) (fNil))))) (sSkip))
  (sSeq (sIf (fAnd (fIsB (fBin gEq (fVar 2) (fC (.int 10)))) (fIsB (fBin gLt (fBin gIx (fVar 4) (fC (.int 0))) (fC (.int 0))))) (sRet (fTup (fCons (fUn gNeg (fBin gIx (fVar 4) (fC (.int 1)))) (fCons (fUn gNeg (fBin gIx (fVar 4) (fC (.int 0)))) (fNil))))) (sSkip))
  (sSeq (sIf (fAnd (fIsB (fBin gLt (fArgs gAbs (fCons (fBin gIx (fVar 4) (fC (.int 0))) (fNil))) (fBin gPow (fC (.int 10)) (fC (.int 19))))) (fIsB (fBin gLt (fBin gIx (fVar 4) (fC (.int 1))) (fBin gPow (fC (.int 10)) (fC (.int 19)))))) (sSeq (sSet 5 (fBin gAdd (fC (.int 1)) (fCall g__law_take (fCons (fVar 0) (fCons (fC (.int 100000000)) (fNil))))))
  (sRet (fCall g__law_lowest (fCons (fBin gAdd (fBin gMul (fBin gIx (fVar 4) (fC (.int 0))) (fVar 5)) (fVar 3)) (fCons (fBin gMul (fBin gIx (fVar 4) (fC (.int 1))) (fVar 5)) (fNil)))))) (sSkip))
  (sSeq (sIf (fIsB (fBin gGt (fBin gIx (fVar 4) (fC (.int 0))) (fC (.int 0)))) (sRet (fCall g__law_lowest (fCons (fBin gSub (fBin gIx (fVar 4) (fC (.int 0))) (fC (.int 1))) (fCons (fBin gIx (fVar 4) (fC (.int 1))) (fNil))))) (sSkip))
  (sRet (fCall g__law_lowest (fCons (fBin gAdd (fBin gIx (fVar 4) (fC (.int 0))) (fC (.int 1))) (fCons (fBin gIx (fVar 4) (fC (.int 1))) (fNil))))))))))
theorem besT_ok {s1 : S} {b : Nat} {w sd p q : Int} {x : D} (hb : Bag s1 b) (N : Nu p q) (hsd : sd = 1 ∨ sd = -1) : ∃ d s2, besT [some (.loc b), some x, some (.int w), some (.int sd), some (fr p q), none] s1 = .rt d s2 ∧ Nm d ∧ Ext b s1 s2 := by
  obtain ⟨hq, hr, ⟨t1, t2⟩, hq2⟩ := N
  by_cases c8 : w = 8
  · exact ⟨fr p q, s1, by simp [besT, c8], ⟨p, q, rfl, hq, hr, ⟨t1, t2⟩, hq2⟩, Ext.refl hb⟩
  by_cases c9 : w = 9
  · refine ⟨fr (-p) q, s1, by simp [besT, c9], ⟨-p, q, rfl, hq, ?_, ⟨by omega, by omega⟩, hq2⟩, Ext.refl hb⟩
    unfold gi at hr ⊢
    rw [Int.natAbs_neg]
    exact hr
  by_cases c10 : w = 10 ∧ 0 < p
  · refine ⟨fr q p, s1, by simp [besT, c10], ⟨q, p, rfl, c10.2, ?_, ⟨by omega, by omega⟩, by omega⟩, Ext.refl hb⟩
    unfold gi at hr ⊢
    rw [Nat.gcd_comm]
    exact hr
  by_cases c11 : w = 10 ∧ p < 0
  · have np : ¬ 0 < p := by omega
    refine ⟨fr (-q) (-p), s1, by simp [besT, c11, np], ⟨-q, -p, rfl, by omega, ?_, ⟨by omega, by omega⟩, by omega⟩, Ext.refl hb⟩
    rw [gi_neg]
    unfold gi at hr ⊢
    rw [Nat.gcd_comm]
    exact hr
  have k10 : (if w = 10 then (if 0 < p then true else false) else false) = false := by
    by_cases c : w = 10
    · have : ¬ 0 < p := fun h => c10 ⟨c, h⟩
      simp [c, this]
    · simp [c]
  by_cases cs : ((p.natAbs : Nat) : Int) < 10000000000000000000 ∧ q < 10000000000000000000
  · obtain ⟨r, s2, er, r0, r1, x2⟩ := take_ok hb (m := 100000000) (by decide) (by decide)
    have m1 : ∀ z : Int, MP.MulOk z (1 + r) := fun z => mulok_r (by omega) (by omega)
    have b1 : -(10 ^ 28) < p * (1 + r) ∧ p * (1 + r) < 10 ^ 28 := by
      have hp : -(10000000000000000000) < p ∧ p < 10000000000000000000 := by omega
      have h1 : p * (1 + r) ≤ 10000000000000000000 * (1 + r) := Int.mul_le_mul_of_nonneg_right (by omega) (by omega)
      have h2 : -(10000000000000000000) * (1 + r) ≤ p * (1 + r) := Int.mul_le_mul_of_nonneg_right (by omega) (by omega)
      omega
    have b2 : 0 < q * (1 + r) := Int.mul_pos hq (by omega)
    have b3 : q * (1 + r) < 10 ^ 28 := by
      have h1 : q * (1 + r) ≤ 10000000000000000000 * (1 + r) := Int.mul_le_mul_of_nonneg_right (by omega) (by omega)
      omega
    have el := low_ok (p := p * (1 + r) + sd) b2 (by omega) s2
    refine ⟨_, s2, ?_, low_nm (p := p * (1 + r) + sd) b2 (by omega) (by omega) (by omega), x2⟩
    have cs1 := cs.1
    have cs2 := cs.2
    by_cases c : w = 10
    · have n1 : ¬ 0 < p := fun h => c10 ⟨c, h⟩
      have n2 : ¬ p < 0 := fun h => c11 ⟨c, h⟩
      have n3 : p = 0 := by omega
      subst n3
      simp [besT, absI, c, cs2, er, m1, el] at el ⊢
      simp [el]
    · simp [besT, absI, c8, c9, c, cs1, cs2, er, m1, el]
  · by_cases c : 0 < p
    · have el := low_ok (p := p - 1) hq hq2 s1
      refine ⟨_, s1, ?_, low_nm (p := p - 1) hq (by omega) (by omega) hq2, Ext.refl hb⟩
      have n10 : ¬ w = 10 := fun h => c10 ⟨h, c⟩
      by_cases cs1 : ((p.natAbs : Nat) : Int) < 10000000000000000000
      · have cs2 : ¬ q < 10000000000000000000 := fun h => cs ⟨cs1, h⟩
        simp [besT, absI, c8, c9, n10, cs1, cs2, c, el]
      · simp [besT, absI, c8, c9, n10, cs1, c, el]
    · have el := low_ok (p := p + 1) hq hq2 s1
      refine ⟨_, s1, ?_, low_nm (p := p + 1) hq (by omega) (by omega) hq2, Ext.refl hb⟩
      by_cases c0 : w = 10
      · have n2 : ¬ p < 0 := fun h => c11 ⟨c0, h⟩
        have n3 : p = 0 := by omega
        subst n3
        have cs2 : ¬ q < 10000000000000000000 := fun h => cs ⟨by decide, h⟩
        simp [besT, absI, c0, cs2] at el ⊢
        simp [el]
      · by_cases cs1 : ((p.natAbs : Nat) : Int) < 10000000000000000000
        · have cs2 : ¬ q < 10000000000000000000 := fun h => cs ⟨cs1, h⟩
          simp [besT, absI, c8, c9, c0, cs1, cs2, c, el]
        · simp [besT, absI, c8, c9, c0, cs1, c, el]
end K03

set_option Elab.async false
set_option linter.all false
set_option maxRecDepth 100000
set_option maxHeartbeats 4000000
namespace K03
open PySem MP
/-- a row of numbers at rw -/
structure Row (st : S) (rw : Nat) (ds : List D) : Prop where
  at_ : st[rw]? = some (.lst ds)
  nm : ∀ d ∈ ds, Nm d
theorem divok_len {n : Nat} (h0 : 0 < n) (h : n < 1000) : DivOk (n : Int) := divok_small (by omega) (by
  have h1 : (1000 : Nat) ≤ 2 ^ 8000 := Nat.le_trans (show 1000 ≤ 2 ^ 10 by decide) (Nat.pow_le_pow_right (by decide) (by decide))
  omega)
theorem nu_one : Nu 1 1 := ⟨by decide, by unfold gi; simp, ⟨by decide, by decide⟩, by decide⟩
theorem m_bes : m__law_beside = sSeq (sSet 4 (fTup (fCons (fC (.int 1)) (fCons (fC (.int 1)) (fNil)))))
  (sSeq (sIf (fIsB (fBin gGt (fArgs gLen (fCons (fVar 1) (fNil))) (fC (.int 0)))) (sSet 4 (fBin gIx (fVar 1) (fCall g__law_take (fCons (fVar 0) (fCons (fArgs gLen (fCons (fVar 1) (fNil))) (fNil)))))) (sSkip)) besT) := rfl
theorem beside_ok {st : S} {b rw : Nat} {ds : List D} {w sd : Int} (hb : Bag st b) (hr : Row st rw ds) (hn : rw ≠ b) (hl : ds.length < 1000) (hsd : sd = 1 ∨ sd = -1) :
    ∃ d s2, g__law_beside [.loc b, .loc rw, .int w, .int sd] st = .ok d s2 ∧ Nm d ∧ Ext b st s2 := by
  have l0 := lstAt_lst hr.at_
  by_cases h0 : ds.length = 0
  · obtain ⟨d, s2, e, n, x⟩ := besT_ok (w := w) (x := .loc rw) hb nu_one hsd
    refine ⟨d, s2, ?_, n, x⟩
    simp [g__law_beside, arN, den_ap, m_bes, gLen_loc _ l0, h0, e]
  · obtain ⟨r, s1, er, r0, r1, x1⟩ := take_ok hb (m := (ds.length : Int)) (by omega) (divok_len (by omega) hl)
    have hlt : r.toNat < ds.length := by omega
    have hd : ds[r.toNat]? = some ds[r.toNat] := List.getElem?_eq_getElem hlt
    obtain ⟨p, q, ed, N⟩ := hr.nm _ (List.getElem_mem hlt)
    have l1 := lstAt_lst (x1.at_ hn hr.at_)
    have ha : L2.atI ds r = some (fr p q) := by
      have z := atI_nat hd
      rw [ed] at z
      rw [← z]
      congr 1
      omega
    obtain ⟨d, s2, e, n, x⟩ := besT_ok (w := w) (x := .loc rw) x1.bag N hsd
    refine ⟨d, s2, ?_, n, x1.trans x⟩
    have hp : (0 : Int) < ds.length := by omega
    have hp' : 0 < ds.length := by omega
    simp [g__law_beside, arN, den_ap, m_bes, gLen_loc _ l0, hp, hp', er, gIx_loc _ _ l1, ha, e]
theorem number_ok {st : S} {b rw : Nat} {ds : List D} (hb : Bag st b) (hr : Row st rw ds) (hn : rw ≠ b) (hl : ds.length < 1000) :
    ∃ d s2, g__law_number [.loc b, .loc rw] st = .ok d s2 ∧ Nm d ∧ Ext b st s2 := by
  obtain ⟨w, s1, ew, w0, w1, x1⟩ := take_ok hb (m := 12) (by decide) (by decide)
  obtain ⟨t, s2, et, t0, t1, x2⟩ := take_ok x1.bag (m := 2) (by decide) (by decide)
  have x12 := x1.trans x2
  have m2 : MP.MulOk 2 t := mulok_l (by decide) (by decide)
  have hsd : 1 - 2 * t = 1 ∨ 1 - 2 * t = -1 := by omega
  have ms : ∀ z, MP.MulOk (1 - 2 * t) z := fun z => mulok_l (by omega) (by omega)
  have sg : ∀ z : Int, (1 - 2 * t) * z = z ∨ (1 - 2 * t) * z = -z := fun z => by
    rcases hsd with h | h <;> rw [h] <;> omega
  by_cases c0 : w = 0
  · subst c0
    exact ⟨fr 0 1, s2, by simp [g__law_number, arN, den_ap, m__law_number, ew, et, m2], nm_one (by decide) (by decide), x12⟩
  by_cases c1 : w = 1
  · subst c1
    obtain ⟨r, s3, er, r0, r1, x3⟩ := take_ok x2.bag (m := 13) (by decide) (by decide)
    refine ⟨fr ((1 - 2 * t) * r) 1, s3, by simp [g__law_number, arN, den_ap, m__law_number, ew, et, m2, er, ms], ?_, x12.trans x3⟩
    have := sg r
    exact nm_one (by omega) (by omega)
  by_cases c5 : w < 5
  · obtain ⟨r, s3, er, r0, r1, x3⟩ := take_ok x2.bag (m := 31) (by decide) (by decide)
    obtain ⟨q, s4, eq, q0, q1, x4⟩ := take_ok x3.bag (m := 12) (by decide) (by decide)
    have := sg r
    have el := low_ok (p := (1 - 2 * t) * r) (q := 1 + q) (by omega) (by omega) s4
    exact ⟨_, s4, by simp [g__law_number, arN, den_ap, m__law_number, ew, et, m2, er, ms, c0, c1, c5, eq, el], low_nm (p := (1 - 2 * t) * r) (q := 1 + q) (by omega) (by omega) (by omega) (by omega), (x12.trans x3).trans x4⟩
  by_cases c5' : w = 5
  · subst c5'
    obtain ⟨v, s3, ev, v0, v1, x3⟩ := large_ok x2.bag
    have := sg v
    exact ⟨fr ((1 - 2 * t) * v) 1, s3, by simp [g__law_number, arN, den_ap, m__law_number, ew, et, m2, ms, ev], nm_one (by omega) (by omega), x12.trans x3⟩
  by_cases c6 : w = 6
  · subst c6
    obtain ⟨v, s3, ev, v0, v1, x3⟩ := large_ok x2.bag
    obtain ⟨u, s4, eu, u0, u1, x4⟩ := large_ok x3.bag
    have := sg v
    have g1 : 0 ≤ u % (10 ^ 40 - 1) := Int.emod_nonneg _ (by decide)
    have g2 : u % (10 ^ 40 - 1) < 10 ^ 40 - 1 := Int.emod_lt_of_pos _ (by decide)
    have el := low_ok (p := (1 - 2 * t) * v) (q := 1 + u % (10 ^ 40 - 1)) (by omega) (by omega) s4
    refine ⟨_, s4, ?_, low_nm (p := (1 - 2 * t) * v) (q := 1 + u % (10 ^ 40 - 1)) (by omega) (by omega) (by omega) (by omega), (x12.trans x3).trans x4⟩
    simp at el
    simp [g__law_number, arN, den_ap, m__law_number, ew, et, m2, ms, ev, eu, el]
  by_cases c7 : w = 7
  · subst c7
    obtain ⟨r, s3, er, r0, r1, x3⟩ := take_ok x2.bag (m := 30) (by decide) (by decide)
    obtain ⟨u, s4, eu, u0, u1, x4⟩ := take_ok x3.bag (m := 30) (by decide) (by decide)
    have := sg (10 ^ 40 - 1 - r)
    have el := low_ok (p := (1 - 2 * t) * (10 ^ 40 - 1 - r)) (q := 10 ^ 40 - 1 - u) (by omega) (by omega) s4
    refine ⟨_, s4, ?_, low_nm (p := (1 - 2 * t) * (10 ^ 40 - 1 - r)) (q := 10 ^ 40 - 1 - u) (by omega) (by omega) (by omega) (by omega), (x12.trans x3).trans x4⟩
    simp at el
    simp [g__law_number, arN, den_ap, m__law_number, ew, et, m2, ms, er, eu, el]
  · obtain ⟨d, s3, e, n, x3⟩ := beside_ok (w := w) (sd := 1 - 2 * t) x2.bag ⟨x12.at_ hn hr.at_, hr.nm⟩ hn hl hsd
    refine ⟨d, s3, ?_, n, x12.trans x3⟩
    simp [g__law_number, arN, den_ap, m__law_number, ew, et, m2, c0, c1, c5, c5', c6, c7, e]
theorem small_len {n : Nat} (h : n < 1000) : n < sizeLine := by
  have : sizeLine = 16777216 := sizeLine_eq
  omega
theorem numbers_ok {st : S} {b : Nat} {n : Nat} (hb : Bag st b) (hbl : b < st.length) (hn : n < 1000) :
    ∃ rw ds s2, g__law_numbers [.loc b, .int n] st = .ok (.loc rw) s2 ∧ Row s2 rw ds ∧ rw ≠ b ∧ ds.length = n ∧ Ext b st s2 := by
  have hsm : Small62 (n : Int) := by unfold Small62; omega
  have nb : st.length ≠ b := by omega
  obtain ⟨ρ', st', h1, x, rs, h2, h3, h4, h5⟩ := loop_inv (chk := fun _ => true) (t := tgN 3)
    (body := sExpr (fLM gAppend (fVar 2) (fCons (fCall g__law_number (fCons (fVar 0) (fCons (fVar 2) (fNil)))) (fNil))))
    (I := fun don ds ρ s => ∃ (x : Option D) (rs : List D), ρ = [some (.loc b), some (.int n), some (.loc st.length), x] ∧ rs.length = don.length ∧ don.length + ds.length = n ∧ Row s st.length rs ∧ Ext b st s)
    (fun don d ds ρ s ⟨x, rs, e, hl, ht, hr, hx⟩ => by
      subst e
      rw [List.length_cons] at ht
      obtain ⟨d', s', ed, nm, xr⟩ := number_ok hx.bag hr nb (by omega)
      have a1 := xr.at_ nb hr.at_
      have ap := gAppend_loc (d := d') a1 (small_len (by omega))
      refine ⟨rfl, _, rfl, [some (.loc b), some (.int n), some (.loc st.length), some d], s'.set st.length (.lst (rs ++ [d'])), .inl ?_, some d, rs ++ [d'], rfl, by simp [hl], by simp; omega, ⟨set_at (lt_of_at a1), fun y hy => ?_⟩, ?_⟩
      · simp [lstAt_lst hr.at_, ed, ap]
      · rcases List.mem_append.mp hy with hy | hy
        · exact hr.nm y hy
        · rw [List.mem_singleton.mp hy]; exact nm
      · obtain ⟨x0, y0, r0, e0⟩ := xr.bag
        refine ⟨⟨x0, y0, r0, by rw [set_ne (Ne.symm nb)]; exact e0⟩, by rw [List.length_set]; exact Nat.le_trans hx.len xr.len, fun k o hk he => ?_⟩
        have kl := lt_of_at he
        rw [set_ne (by omega)]
        exact xr.keep k o hk (hx.keep k o hk he))
    (fun _ _ _ _ => rfl) (rangeD 0 n) [] [some (.loc b), some (.int n), some (.loc st.length), none] (st ++ [.lst []])
    ⟨none, [], rfl, rfl, by rw [rangeD_len]; simp, ⟨app_new, fun _ h => nomatch h⟩, (Ext.refl hb).app _⟩
  refine ⟨st.length, rs, st', ?_, h5.1, nb, ?_, h5.2⟩
  · unfold g__law_numbers arN
    rw [if_pos (show [D.loc b, D.int n].length = 2 from rfl), den_ap]
    have e : sForR1 (fCons (fVar 1) (fNil)) (tgN 3) (sExpr (fLM gAppend (fVar 2) (fCons (fCall g__law_number (fCons (fVar 0) (fCons (fVar 2) (fNil)))) (fNil)))) [some (.loc b), some (.int n), some (.loc st.length), none] (st ++ [.lst []]) = .nx [some (.loc b), some (.int n), some (.loc st.length), x] st' := by
      subst h2
      rw [sForR1_ok (j := (n : Int)) (st1 := st ++ [.lst []]) rfl hsm]
      exact h1
    have e2 : sSet 2 (fLst (fNil)) [some (.loc b), some (.int n), none, none] st = .nx [some (.loc b), some (.int n), some (.loc st.length), none] (st ++ [.lst []]) := rfl
    show ((sSeq (sSet 2 (fLst (fNil))) (sSeq _ (sRet (fVar 2)))) [some (.loc b), some (.int n), none, none] st).out = _
    rw [sSeq_ap, e2, then_nx, sSeq_ap, e, then_nx]
    rfl
  · rw [h3]
    simp [rangeD_len]
end K03

set_option Elab.async false
set_option linter.all false
set_option maxRecDepth 100000
set_option maxHeartbeats 4000000
namespace K03
open PySem MP
theorem Ext.apps {b : Nat} {s1 s2 : S} (h : Ext b s1 s2) : ∀ os, Ext b s1 (s2 ++ os)
  | [] => by rw [List.append_nil]; exact h
  | o :: os => by
    have z := Ext.apps (h.app o) os
    rw [List.append_assoc] at z
    exact z
theorem sm40 {x : Int} (h1 : -(10 ^ 40) < x) (h2 : x < 10 ^ 40) : Sm x := by
  unfold Sm
  have : (10 ^ 40 : Nat) ≤ 2 ^ 8000 := Nat.le_trans (show (10 ^ 40 : Nat) ≤ 2 ^ 140 by decide) (Nat.pow_le_pow_right (by decide) (by decide))
  omega
theorem gi_zero {q : Int} (h : 0 < q) : gi 0 q = q := by
  unfold gi
  rw [Int.natAbs_zero, Nat.gcd_zero_left]
  omega
theorem low_zero {q : Int} (h : 0 < q) : low 0 q = fr 0 1 := by
  unfold low
  rw [gi_zero h, Int.zero_ediv, Int.ediv_self (by omega)]
theorem low_one (p : Int) : low p 1 = fr p 1 := low_id (by unfold gi; simp)
theorem low_f {p q f : Int} (hr : gi p q = 1) (hf : 0 < f) : low (p * f) (q * f) = fr p q := by
  rw [Int.mul_comm p, Int.mul_comm q, low_scale hf, low_id hr]
theorem is_low {x y : Int} (st : S) : g__law_is [low x y, low x y] st = .ok (.bl true) st := by
  unfold low
  rw [is_ok]
  simp
theorem nsm {p q : Int} (N : Nu p q) : Sm p ∧ Sm q := ⟨sm40 N.top.1 N.top.2, sm40 (by have := N.pos; omega) N.bot⟩
/-- |x| < 10^80 -/
theorem b80 {x y : Int} (h1 : -(10 ^ 40) < x ∧ x < 10 ^ 40) (h2 : -(10 ^ 40) < y ∧ y < 10 ^ 40) : (x * y).natAbs < 10 ^ 80 := by
  rw [Int.natAbs_mul]
  have a : x.natAbs < 10 ^ 40 := by omega
  have b : y.natAbs < 10 ^ 40 := by omega
  calc x.natAbs * y.natAbs ≤ 10 ^ 40 * y.natAbs := Nat.mul_le_mul_right _ (Nat.le_of_lt a)
    _ < 10 ^ 40 * 10 ^ 40 := Nat.mul_lt_mul_of_pos_left b (by decide)
    _ = 10 ^ 80 := by rw [← Nat.pow_add]
theorem sm80 {x : Int} (h : x.natAbs < 10 ^ 80) : Sm x := by
  unfold Sm
  exact Nat.lt_of_lt_of_le h (Nat.le_trans (show (10 ^ 80 : Nat) ≤ 2 ^ 280 by decide) (Nat.pow_le_pow_right (by decide) (by decide)))

/-- parts below 10^80 -/
structure Nv (p q : Int) : Prop where
  pos : 0 < q
  red : gi p q = 1
  top : -(10 ^ 80) < p ∧ p < 10 ^ 80
  bot : q < 10 ^ 80
def Nw (d : D) : Prop := ∃ p q : Int, d = fr p q ∧ Nv p q
theorem Nu.v {p q : Int} (N : Nu p q) : Nv p q := ⟨N.pos, N.red, by have := N.top; omega, by have := N.bot; omega⟩
theorem Nm.w {d : D} (h : Nm d) : Nw d := by
  obtain ⟨p, q, e, N⟩ := h
  exact ⟨p, q, e, N.v⟩
theorem nsv {p q : Int} (N : Nv p q) : Sm p ∧ Sm q := ⟨sm80 (by have := N.top; omega), sm80 (by have := N.bot; have := N.pos; omega)⟩
def fs (x : Int × Int) : D → Int × Int
  | .tup [.int p, .int q] => (x.1 * q + p * x.2, x.2 * q)
  | _ => x
abbrev U : Nat := 10 ^ 80 - 1
structure Bd (k : Nat) (x : Int × Int) : Prop where
  pos : 0 < x.2
  bot : x.2.natAbs ≤ U ^ k
  top : x.1.natAbs ≤ k * U ^ k
theorem Bd.step {k : Nat} {x : Int × Int} {p q : Int} (h : Bd k x) (N : Nv p q) : Bd (k + 1) (x.1 * q + p * x.2, x.2 * q) := by
  have hp : p.natAbs ≤ U := by have := N.top; show p.natAbs ≤ 10 ^ 80 - 1; omega
  have hq : q.natAbs ≤ U := by have := N.bot; have := N.pos; show q.natAbs ≤ 10 ^ 80 - 1; omega
  refine ⟨Int.mul_pos h.pos N.pos, ?_, ?_⟩
  · show (x.2 * q).natAbs ≤ U ^ (k + 1)
    rw [Int.natAbs_mul, Nat.pow_succ]
    exact Nat.mul_le_mul h.bot hq
  · show (x.1 * q + p * x.2).natAbs ≤ (k + 1) * U ^ (k + 1)
    have a1 : (x.1 * q).natAbs ≤ k * U ^ (k + 1) := by
      rw [Int.natAbs_mul, Nat.pow_succ, ← Nat.mul_assoc]
      exact Nat.mul_le_mul h.top hq
    have a2 : (p * x.2).natAbs ≤ U ^ (k + 1) := by
      rw [Int.natAbs_mul, Nat.pow_succ, Nat.mul_comm]
      exact Nat.mul_le_mul h.bot hp
    have a3 := Int.natAbs_add_le (x.1 * q) (p * x.2)
    rw [Nat.add_mul, Nat.one_mul]
    omega
theorem U_le {k : Nat} (hk : k ≤ 7) : U ^ k ≤ U ^ 7 := Nat.pow_le_pow_right (by decide) hk
theorem U13 : 7 * U ^ 7 < 2 ^ 2000 := by decide +kernel
theorem U12 : U ^ 7 < (10 ^ 40) ^ 15 := by decide +kernel
theorem two8 : 2 ^ 2000 ≤ 2 ^ 8000 := Nat.pow_le_pow_right (by decide) (by decide)
theorem Bd.sm1 {k : Nat} {x : Int × Int} (h : Bd k x) (hk : k ≤ 7) : Sm x.1 := by
  unfold Sm
  have a := h.top
  have b : k * U ^ k ≤ 7 * U ^ 7 := Nat.mul_le_mul hk (U_le hk)
  exact Nat.lt_of_le_of_lt (Nat.le_trans a b) (Nat.lt_of_lt_of_le U13 two8)
theorem Bd.sm2 {k : Nat} {x : Int × Int} (h : Bd k x) (hk : k ≤ 7) : Sm x.2 := by
  unfold Sm
  have a := h.bot
  have b : U ^ k ≤ 7 * U ^ 7 := Nat.le_trans (U_le hk) (Nat.le_mul_of_pos_left _ (by decide))
  exact Nat.lt_of_le_of_lt (Nat.le_trans a b) (Nat.lt_of_lt_of_le U13 two8)
theorem Bd.lt {k : Nat} {x : Int × Int} (h : Bd k x) (hk : k ≤ 7) : x.2 < (10 ^ 40) ^ 15 := by
  have a := h.bot
  have b : U ^ k ≤ U ^ 7 := Nat.pow_le_pow_right (by decide) hk
  have c := U12
  have d := h.pos
  have e : x.2.natAbs < (10 ^ 40) ^ 15 := Nat.lt_of_le_of_lt (Nat.le_trans a b) c
  omega
theorem bd_fold : ∀ (ds : List D) (k : Nat) (x : Int × Int), Bd k x → (∀ d ∈ ds, Nw d) → Bd (k + ds.length) (ds.foldl fs x)
  | [], k, x, h, _ => h
  | d :: ds, k, x, h, hn => by
    obtain ⟨p, q, e, N⟩ := hn d List.mem_cons_self
    subst e
    have z := bd_fold ds (k + 1) _ (h.step N) (fun d' hd => hn d' (List.mem_cons_of_mem _ hd))
    rw [List.length_cons, show k + (ds.length + 1) = k + 1 + ds.length by omega]
    exact z
theorem bd0 : Bd 0 (0, 1) := ⟨by decide, by decide, by decide⟩
/-- low of what is summed up so far -/
theorem plus_low {k : Nat} {x : Int × Int} {p q : Int} (h : Bd k x) (hk : k ≤ 6) (N : Nv p q) (st : S) : g_plus [low x.1 x.2, fr p q] st = .ok (low (x.1 * q + p * x.2) (x.2 * q)) st := by
  obtain ⟨g, a, b, hg, e1, e2, hb, hr, e⟩ := low_spec (p := x.1) h.pos
  have s1 := h.sm1 (by omega)
  have s2 := h.sm2 (by omega)
  have s3 := (h.step N).sm2 (by omega)
  have la : a.natAbs ≤ x.1.natAbs := by rw [e1, Int.natAbs_mul]; exact Nat.le_mul_of_pos_left _ (by omega)
  have lb : b.natAbs ≤ x.2.natAbs := by rw [e2, Int.natAbs_mul]; exact Nat.le_mul_of_pos_left _ (by omega)
  have lbq : (b * q).natAbs ≤ (x.2 * q).natAbs := by rw [Int.natAbs_mul, Int.natAbs_mul]; exact Nat.mul_le_mul_right _ lb
  obtain ⟨np, nq⟩ := nsv N
  have z := plus_ok (p := a) (q := b) (r := p) (s := q) hb N.pos (Nat.lt_of_le_of_lt la s1) np (Nat.lt_of_le_of_lt lb s2) nq st (Nat.lt_of_le_of_lt lbq s3)
  rw [e, z]
  rw [e1, e2]
  have t1 : g * a * q + p * (g * b) = g * (a * q + p * b) := by
    rw [Int.mul_add, Int.mul_assoc, Int.mul_left_comm p g b]
  have t2 : g * b * q = g * (b * q) := Int.mul_assoc _ _ _
  rw [t1, t2, low_scale hg]
theorem sum_ok {ds : List D} {k : Nat} {st : S} (hk : lstAt st k = some ds) (hn : ∀ d ∈ ds, Nw d) (hl : ds.length ≤ 7) : g__law_sum [.loc k] st = .ok (low (ds.foldl fs (0, 1)).1 (ds.foldl fs (0, 1)).2) st := by
  obtain ⟨ρ', st', h1, x, h2, h3⟩ := loop_inv (chk := fun s => decide (lstAt s k = some ds)) (t := tgN 3) (body := sSeq (sSet 1 (fBin gAdd (fBin gMul (fVar 1) (fBin gIx (fVar 3) (fC (.int 1)))) (fBin gMul (fBin gIx (fVar 3) (fC (.int 0))) (fVar 2))))
  (sSet 2 (fBin gMul (fVar 2) (fBin gIx (fVar 3) (fC (.int 1))))))
    (I := fun don cs ρ s => ∃ x : Option D, ρ = [some (.loc k), some (.int (don.foldl fs (0, 1)).1), some (.int (don.foldl fs (0, 1)).2), x] ∧ s = st ∧ don ++ cs = ds)
    (fun don d cs ρ s ⟨x, e, es, h⟩ => by
      rw [e, es]
      have hd : d ∈ ds := by rw [← h]; simp
      obtain ⟨p, q, ed, N⟩ := hn d hd
      have hdn : ∀ d' ∈ don, Nw d' := fun d' h' => hn d' (by rw [← h]; exact List.mem_append_left _ h')
      have hdl : don.length ≤ 7 := by
        have := congrArg List.length h
        rw [List.length_append, List.length_cons] at this
        omega
      have b := bd_fold don 0 (0, 1) bd0 hdn
      rw [Nat.zero_add] at b
      have b1 := b.sm1 (by omega)
      have b2 := b.sm2 (by omega)
      obtain ⟨np, nq⟩ := nsv N
      have m1 := mm b1 nq
      have m2 := mm np b2
      have m3 := mm b2 nq
      subst ed
      refine ⟨decide_eq_true hk, _, rfl, [some (.loc k), some (.int ((don ++ [fr p q]).foldl fs (0, 1)).1), some (.int ((don ++ [fr p q]).foldl fs (0, 1)).2), some (fr p q)], st, .inl ?_, some (fr p q), rfl, rfl, by rw [List.append_assoc]; exact h⟩
      rw [List.foldl_append]
      show _ = SO.nx [some (.loc k), some (.int ((don.foldl fs (0, 1)).1 * q + p * (don.foldl fs (0, 1)).2)), some (.int ((don.foldl fs (0, 1)).2 * q)), some (fr p q)] st
      generalize don.foldl fs (0, 1) = w at m1 m2 m3
      simp [m1, m2, m3])
    (fun don ρ s ⟨x, e, es, h⟩ => by rw [es]; exact decide_eq_true hk) ds [] [some (.loc k), some (.int 0), some (.int 1), none] st ⟨none, rfl, rfl, rfl⟩
  obtain ⟨h3, h4⟩ := h3
  rw [List.nil_append] at h2
  have b := bd_fold ds 0 (0, 1) bd0 hn
  rw [Nat.zero_add] at b
  have el := lowest_ok (p := (ds.foldl fs (0, 1)).1) b.pos (b.lt hl) st
  unfold g__law_sum arN
  rw [if_pos (show [D.loc k].length = 1 from rfl), den_ap]
  show ((sSeq (sSet 1 (fC (.int 0))) (sSeq (sSet 2 (fC (.int 1))) (sSeq (sFor (fVar 0) (tgN 3) _) (sRet _)))) [some (.loc k), none, none, none] st).out = _
  rw [sSeq_ap, sSet_ap, fC_ap, Out.so_ok, then_nx, sSeq_ap, sSet_ap, fC_ap, Out.so_ok, then_nx, sSeq_ap]
  show ((sFor (fVar 0) (tgN 3) _ [some (.loc k), some (.int 0), some (.int 1), none] st).then_ _).out = _
  rw [sFor_loc (n := k) (st1 := st) (ds := ds) rfl hk, h1, h2, h3]
  simp [el]
end K03

set_option Elab.async false
set_option linter.all false
set_option maxRecDepth 100000
set_option maxHeartbeats 4000000
namespace K03
open PySem MP
theorem bag_ok (ns : List Int) (hl : ns.length ≤ 63) : ∃ st', g__law_bag [.loc 0] [.fz (ns.map D.int)] = .ok (.loc 2) st' ∧ Bag st' 2 ∧ 2 < st'.length := by
  obtain ⟨s0, h0⟩ : ∃ s : S, s = [.fz (ns.map D.int)] := ⟨_, rfl⟩
  have l0 : lstAt s0 0 = some (ns.map D.int) := by rw [h0]; rfl
  have n0 : s0.length = 1 := by rw [h0]; rfl
  have hc : cutD (ns.map D.int) none (some 63) = ns.map D.int := cut_all_to (k := 63) (by simpa using hl)
  have g1 := gSl_loc (lo := none) (hi := some 63) l0
  rw [hc, n0] at g1
  obtain ⟨s1, h1⟩ : ∃ s, s = s0 ++ [Ob.lst (ns.map D.int)] := ⟨_, rfl⟩
  rw [← h1] at g1
  have n1 : s1.length = 2 := by rw [h1]; simp [n0]
  have l1 : lstAt s1 1 = some (ns.map D.int) := by rw [h1, ← n0]; exact lstAt_lst app_new
  have g2 : gSum [.loc 1] s1 = some (.int ns.sum, s1) := by
    unfold gSum
    simp only [l1, ints_map, Option.map_some]
  obtain ⟨y, hy⟩ : ∃ y, y = ns.sum % 1000003 := ⟨_, rfl⟩
  obtain ⟨s2, h2⟩ : ∃ s, s = s1 ++ [Ob.lst [.int 0, .int y]] := ⟨_, rfl⟩
  have n2 : s2.length = 3 := by rw [h2]; simp [n1]
  have l02 : lstAt s2 0 = some (ns.map D.int) := by rw [h2, h1]; exact lst_app [_] (lst_app [_] l0)
  have b2 : s2[2]? = some (.lst [.int 0, .int y]) := by rw [h2, ← n1]; exact app_new
  have g3 := gSl_loc (lo := none) (hi := some 63) l02
  rw [hc, n2] at g3
  obtain ⟨s3, h3⟩ : ∃ s, s = s2 ++ [Ob.lst (ns.map D.int)] := ⟨_, rfl⟩
  rw [← h3] at g3
  have n3 : s3.length = 4 := by rw [h3]; simp [n2]
  have l3 : s3[3]? = some (.lst (ns.map D.int)) := by rw [h3, ← n2]; exact app_new
  have b3 : s3[2]? = some (.lst [.int 0, .int y]) := by rw [h3]; exact app_old b2
  have lk : ∀ o, lstAt (s3.set 2 o) 3 = some (ns.map D.int) := fun o => lstAt_lst (by rw [set_ne (by decide)]; exact l3)
  obtain ⟨ρ', st', e1, x, r, e2, e3, e4, e5⟩ := loop_inv (chk := fun s => decide (lstAt s 3 = some (ns.map D.int))) (t := tgN 2)
    (body := sIf (fIsB (fBin gGe (fArgs gAbs (fCons (fArgs gInt (fCons (fVar 2) (fNil))) (fNil))) (fBin gPow (fC (.int 10)) (fC (.int 18))))) (sExpr (fLM gAppend (fVar 1) (fCons (fArgs gAbs (fCons (fArgs gInt (fCons (fVar 2) (fNil))) (fNil))) (fNil)))) (sExpr (fLM gAppend (fVar 1) (fCons (fBin gSub (fUn gNeg (fC (.int 1))) (fArgs gAbs (fCons (fArgs gInt (fCons (fVar 2) (fNil))) (fNil)))) (fNil)))))
    (I := fun don cs ρ s => ∃ (x : Option D) (r : List Int), ρ = [some (.loc 0), some (.loc 2), x] ∧ s = s3.set 2 (.lst (.int 0 :: .int y :: r.map D.int)) ∧ r.length = don.length ∧ don ++ cs = ns.map D.int)
    (fun don d cs ρ s ⟨x, r, e, es, hr, h⟩ => by
      rw [e, es]
      have hd : d ∈ ns.map D.int := by rw [← h]; simp
      obtain ⟨i, hi, ei⟩ := List.mem_map.mp hd
      subst ei
      have hlen := congrArg List.length h
      simp only [List.length_append, List.length_cons, List.length_map] at hlen
      have bb : (s3.set 2 (.lst (.int 0 :: .int y :: r.map D.int)))[2]? = some (.lst (.int 0 :: .int y :: r.map D.int)) := set_at (by omega)
      have lb := lstAt_lst bb
      have sz : (D.int 0 :: D.int y :: r.map D.int).length < sizeLine := small_len (by simp only [List.length_cons, List.length_map]; omega)
      have ap : ∀ v : Int, gAppend (.loc 2) [.int v] (s3.set 2 (.lst (.int 0 :: .int y :: r.map D.int))) = some (.non, s3.set 2 (.lst (.int 0 :: .int y :: (r ++ [v]).map D.int))) := fun v => by
        rw [gAppend_loc bb sz, List.set_set, List.map_append]
        rfl
      refine ⟨decide_eq_true (lk _), _, rfl, ?_⟩
      by_cases c : (1000000000000000000 : Int) ≤ absI i
      · refine ⟨[some (.loc 0), some (.loc 2), some (.int i)], s3.set 2 (.lst (.int 0 :: .int y :: (r ++ [absI i]).map D.int)), .inl ?_, some (.int i), r ++ [absI i], rfl, rfl, by simp [hr], by rw [List.append_assoc]; exact h⟩
        simp [c, lb, ap]
      · refine ⟨[some (.loc 0), some (.loc 2), some (.int i)], s3.set 2 (.lst (.int 0 :: .int y :: (r ++ [-1 - absI i]).map D.int)), .inl ?_, some (.int i), r ++ [-1 - absI i], rfl, rfl, by simp [hr], by rw [List.append_assoc]; exact h⟩
        simp [c, lb, ap])
    (fun don ρ s ⟨x, r, e, es, hr, h⟩ => by rw [es]; exact decide_eq_true (lk _)) (ns.map D.int) [] [some (.loc 0), some (.loc 2), none] s3
    ⟨none, [], rfl, by
      refine List.ext_getElem? fun k => ?_
      by_cases hk : k = 2
      · subst hk
        rw [b3, set_at (by omega)]
        rfl
      · rw [set_ne hk], rfl, rfl⟩
  refine ⟨st', ?_, ⟨0, y, r, by rw [e3]; exact set_at (by omega)⟩, by rw [e3, List.length_set]; omega⟩
  unfold g__law_bag arN
  rw [if_pos (show [D.loc 0].length = 1 from rfl), den_ap, ← h0]
  show ((sSeq (sSet 1 (fLst _)) (sSeq (sFor _ (tgN 2) _) (sRet (fVar 1)))) [some (.loc 0), none, none] s0).out = _
  have f1 : sSet 1 (fLst (fCons (fC (.int 0)) (fCons (fBin gMod (fArgs gInt (fCons (fArgs gSum (fCons (fSl gSl (fVar 0) (fNo) (fPart (fC (.int 63)))) (fNil))) (fNil))) (fC (.int 1000003))) (fNil)))) [some (.loc 0), none, none] s0 = .nx [some (.loc 0), some (.loc 2), none] s2 := by
    rw [h2, ← n1, hy]
    simp [g1, g2]
  rw [sSeq_ap, f1, then_nx, sSeq_ap]
  have f2 : fSl gSl (fVar 0) (fNo) (fPart (fC (.int 63))) [some (.loc 0), some (.loc 2), none] s2 = .ok (.loc 3) s3 := by simp [g3]
  rw [sFor_loc (n := 3) (st1 := s3) (ds := ns.map D.int) f2 (lstAt_lst l3), e1, e2, then_nx]
  rfl
theorem pick_ok {st : S} {b rw : Nat} {ds : List D} (hb : Bag st b) (hr : Row st rw ds) (h0 : 0 < ds.length) (hl : ds.length < 1000) :
    ∃ r d s', g__law_take [.loc b, .int ds.length] st = .ok (.int r) s' ∧ L2.atI ds r = some d ∧ Nm d ∧ Ext b st s' := by
  obtain ⟨r, s1, er, r0, r1, x1⟩ := take_ok hb (m := (ds.length : Int)) (by omega) (divok_len h0 hl)
  have hlt : r.toNat < ds.length := by omega
  have ha := atI_nat (List.getElem?_eq_getElem hlt)
  have e : ((r.toNat : Nat) : Int) = r := by omega
  rw [e] at ha
  exact ⟨r, _, s1, er, ha, hr.nm _ (List.getElem_mem hlt), x1⟩
end K03

set_option Elab.async false
set_option linter.all false
set_option maxRecDepth 100000
set_option maxHeartbeats 4000000
namespace K03
open PySem MP
def addD : D → D → D
  | .tup [.int p, .int q], .tup [.int r, .int s] => low (p * s + r * q) (q * s)
  | x, _ => x
def subD : D → D → D
  | .tup [.int p, .int q], .tup [.int r, .int s] => low (p * s - r * q) (q * s)
  | x, _ => x
def mulD : D → D → D
  | .tup [.int p, .int q], .tup [.int r, .int s] => low (p * r) (q * s)
  | x, _ => x
def sumD (ds : List D) : D := low (ds.foldl fs (0, 1)).1 (ds.foldl fs (0, 1)).2
theorem b40 {p q r s : Int} (N : Nu p q) (M : Nu r s) : Sm p ∧ Sm q ∧ Sm r ∧ Sm s ∧ 0 < q * s ∧ (p * r).natAbs < 10 ^ 80 ∧ (q * s).natAbs < 10 ^ 80 ∧ Sm (q * s) := by
  obtain ⟨h1, h2⟩ := nsm N
  obtain ⟨h3, h4⟩ := nsm M
  have hq : -(10 ^ 40) < q ∧ q < 10 ^ 40 := ⟨by have := N.pos; omega, N.bot⟩
  have hs : -(10 ^ 40) < s ∧ s < 10 ^ 40 := ⟨by have := M.pos; omega, M.bot⟩
  exact ⟨h1, h2, h3, h4, Int.mul_pos N.pos M.pos, b80 N.top M.top, b80 hq hs, sm80 (b80 hq hs)⟩
theorem plus_nm {a b : D} (ha : Nm a) (hb : Nm b) (st : S) : g_plus [a, b] st = .ok (addD a b) st := by
  obtain ⟨p, q, rfl, N⟩ := ha
  obtain ⟨r, s, rfl, M⟩ := hb
  obtain ⟨h1, h2, h3, h4, h5, h6, h7, h8⟩ := b40 N M
  exact plus_ok N.pos M.pos h1 h3 h2 h4 st h8
theorem minus_nm {a b : D} (ha : Nm a) (hb : Nm b) (st : S) : g_minus [a, b] st = .ok (subD a b) st := by
  obtain ⟨p, q, rfl, N⟩ := ha
  obtain ⟨r, s, rfl, M⟩ := hb
  obtain ⟨h1, h2, h3, h4, h5, h6, h7, h8⟩ := b40 N M
  exact minus_ok N.pos M.pos h1 h3 h2 h4 st h8
theorem times_nm {a b : D} (ha : Nm a) (hb : Nm b) (st : S) : g_times [a, b] st = .ok (mulD a b) st := by
  obtain ⟨p, q, rfl, N⟩ := ha
  obtain ⟨r, s, rfl, M⟩ := hb
  obtain ⟨h1, h2, h3, h4, h5, h6, h7, h8⟩ := b40 N M
  exact times_ok N.pos M.pos h1 h3 h2 h4 st h8
theorem product_nm {a b : D} (ha : Nm a) (hb : Nm b) (st : S) : g__law_product [a, b] st = .ok (mulD a b) st := by
  obtain ⟨p, q, rfl, N⟩ := ha
  obtain ⟨r, s, rfl, M⟩ := hb
  obtain ⟨h1, h2, h3, h4, h5, h6, h7, h8⟩ := b40 N M
  have e := lowest_ok (p := p * r) (q := q * s) h5 (by
    have : ((10 ^ 80 : Nat) : Int) < (10 ^ 40) ^ 15 := by decide +kernel
    omega) st
  simp [g__law_product, arN, den_ap, m__law_product, mm h1 h3, mm h2 h4, e, mulD]
theorem low_nv {p q : Int} (hq : 0 < q) (h1 : p.natAbs < 10 ^ 80) (h2 : q.natAbs < 10 ^ 80) : Nw (low p q) := by
  obtain ⟨g, a, b, hg, e1, e2, hb, hr, e⟩ := low_spec (p := p) hq
  have la : a.natAbs ≤ p.natAbs := by rw [e1, Int.natAbs_mul]; exact Nat.le_mul_of_pos_left _ (by omega)
  have lb : b.natAbs ≤ q.natAbs := by rw [e2, Int.natAbs_mul]; exact Nat.le_mul_of_pos_left _ (by omega)
  exact ⟨a, b, e, hb, hr, by omega, by omega⟩
theorem mul_nw {a b : D} (ha : Nm a) (hb : Nm b) : Nw (mulD a b) := by
  obtain ⟨p, q, rfl, N⟩ := ha
  obtain ⟨r, s, rfl, M⟩ := hb
  obtain ⟨h1, h2, h3, h4, h5, h6, h7, h8⟩ := b40 N M
  exact low_nv h5 h6 h7
theorem sum_two {a b : D} (ha : Nm a) (hb : Nm b) : sumD [a, b] = addD a b := by
  obtain ⟨p, q, rfl, N⟩ := ha
  obtain ⟨r, s, rfl, M⟩ := hb
  show low ((0 * q + p * 1) * s + r * (1 * q)) (1 * q * s) = low (p * s + r * q) (q * s)
  rw [Int.zero_mul, Int.zero_add, Int.mul_one, Int.one_mul]
/-- the pieces of a pair -/
def un2 (F : D → D → D) : D → D
  | .tup [a, b] => F a b
  | d => d
theorem zip_un (F : D → D → D) : ∀ f g : List D, (zipD f g).map (un2 F) = List.zipWith F f g
  | [], g => by simp [zipD]
  | a :: f, [] => by simp [zipD]
  | a :: f, b :: g => by
    have z := zip_un F f g
    unfold zipD at z ⊢
    simp only [List.zip_cons_cons, List.map_cons, List.zipWith_cons_cons]
    rw [z]
    rfl
theorem zip_mem {f g : List D} {d : D} (h : d ∈ zipD f g) : ∃ a b, d = .tup [a, b] ∧ a ∈ f ∧ b ∈ g := by
  unfold zipD at h
  obtain ⟨⟨a, b⟩, h1, rfl⟩ := List.mem_map.mp h
  exact ⟨a, b, rfl, List.of_mem_zip h1⟩
theorem zip_short {f g : List D} (h : f.length ≤ 1000) : (zipD f g).length < sizeLine := by
  have : sizeLine = 16777216 := sizeLine_eq
  rw [zipD_len]
  omega
theorem form_plus_ok {f g : List D} (hf : ∀ d ∈ f, Nm d) (hg : ∀ d ∈ g, Nm d) (hl : f.length ≤ 1000) (st : S) : ∃ os, g_form_plus [.tup f, .tup g] st = .ok (.tup (List.zipWith addD f g)) (st ++ os) := by
  have e := fLc_map (own := [2, 3]) (fi := fZip (fCons (fVar 0) (fCons (fVar 1) (fNil)))) (g := tgTup [tgN 2, tgN 3]) (fe := fCall g_plus (fCons (fVar 2) (fCons (fVar 3) (fNil)))) (ρ := [some (.tup f), some (.tup g), none, none]) (st := st) (st1 := st) (ds := zipD f g) (chk := fun _ => true) (F := un2 addD)
    rfl (zip_short hl) (fun _ => rfl) (fun d hd xs => by
      obtain ⟨a, b, rfl, ha, hb⟩ := zip_mem hd
      exact ⟨_, rfl, by simpa [wipeE, un2] using plus_nm (hf a ha) (hg b hb) _⟩)
  rw [zip_un] at e
  refine ⟨[.lst (List.zipWith addD f g)], ?_⟩
  simp [g_form_plus, arN, den_ap, m_form_plus, e, gTuple_loc (lstAt_lst app_new)]
theorem form_minus_ok {f g : List D} (hf : ∀ d ∈ f, Nm d) (hg : ∀ d ∈ g, Nm d) (hl : f.length ≤ 1000) (st : S) : ∃ os, g_form_minus [.tup f, .tup g] st = .ok (.tup (List.zipWith subD f g)) (st ++ os) := by
  have e := fLc_map (own := [2, 3]) (fi := fZip (fCons (fVar 0) (fCons (fVar 1) (fNil)))) (g := tgTup [tgN 2, tgN 3]) (fe := fCall g_minus (fCons (fVar 2) (fCons (fVar 3) (fNil)))) (ρ := [some (.tup f), some (.tup g), none, none]) (st := st) (st1 := st) (ds := zipD f g) (chk := fun _ => true) (F := un2 subD)
    rfl (zip_short hl) (fun _ => rfl) (fun d hd xs => by
      obtain ⟨a, b, rfl, ha, hb⟩ := zip_mem hd
      exact ⟨_, rfl, by simpa [wipeE, un2] using minus_nm (hf a ha) (hg b hb) _⟩)
  rw [zip_un] at e
  refine ⟨[.lst (List.zipWith subD f g)], ?_⟩
  simp [g_form_minus, arN, den_ap, m_form_minus, e, gTuple_loc (lstAt_lst app_new)]
theorem short {n : Nat} (h : n ≤ 1000) : n < sizeLine := by
  have : sizeLine = 16777216 := sizeLine_eq
  omega
theorem form_times_ok {f : List D} {x : D} (hf : ∀ d ∈ f, Nm d) (hx : Nm x) (hl : f.length ≤ 1000) (st : S) : ∃ os, g_form_times [.tup f, x] st = .ok (.tup (f.map (mulD · x))) (st ++ os) := by
  have e := fLc_map (own := [2]) (fi := fSeq (fVar 0)) (g := tgN 2) (fe := fCall g_times (fCons (fVar 2) (fCons (fVar 1) (fNil)))) (ρ := [some (.tup f), some x, none]) (st := st) (st1 := st) (ds := f) (chk := fun _ => true) (F := (mulD · x))
    rfl (short hl) (fun _ => rfl) (fun d hd xs => ⟨_, rfl, by simpa [wipeE] using times_nm (hf d hd) hx _⟩)
  refine ⟨[.lst (f.map (mulD · x))], ?_⟩
  simp [g_form_times, arN, den_ap, m_form_times, e, gTuple_loc (lstAt_lst app_new)]
theorem scaled_ok {f : List D} {x : D} (hf : ∀ d ∈ f, Nm d) (hx : Nm x) (hl : f.length ≤ 1000) (st : S) : ∃ os, g__law_scaled [.tup f, x] st = .ok (.tup (f.map (mulD · x))) (st ++ os) := by
  have e := fLc_map (own := [2]) (fi := fSeq (fVar 0)) (g := tgN 2) (fe := fCall g__law_product (fCons (fVar 2) (fCons (fVar 1) (fNil)))) (ρ := [some (.tup f), some x, none]) (st := st) (st1 := st) (ds := f) (chk := fun _ => true) (F := (mulD · x))
    rfl (short hl) (fun _ => rfl) (fun d hd xs => ⟨_, rfl, by simpa [wipeE] using product_nm (hf d hd) hx _⟩)
  refine ⟨[.lst (f.map (mulD · x))], ?_⟩
  simp [g__law_scaled, arN, den_ap, m__law_scaled, e, gTuple_loc (lstAt_lst app_new)]
end K03

set_option Elab.async false
set_option linter.all false
set_option maxRecDepth 100000
set_option maxHeartbeats 4000000
namespace K03
open PySem MP
/-- the item that a number names -/
def nthD (L : List D) : D → D
  | .int k => L.getD k.toNat .non
  | d => d
theorem mem_rng {n : Nat} {d : D} (h : d ∈ rangeD 0 (n : Int)) : ∃ k : Nat, k < n ∧ d = .int (k : Int) := by
  unfold rangeD at h
  obtain ⟨k, hk, rfl⟩ := List.mem_map.mp h
  rw [List.mem_range] at hk
  exact ⟨k, by omega, by rw [Int.zero_add]⟩
theorem rng_nth (L : List D) : (rangeD 0 (L.length : Int)).map (nthD L) = L := by
  refine List.ext_getElem (by simp [rangeD_len]) fun i h1 h2 => ?_
  unfold rangeD
  simp [nthD, h2]
theorem nth_at {L : List D} {k : Nat} (h : k < L.length) : nthD L (.int (k : Int)) = L[k] := by
  show L.getD (k : Int).toNat .non = _
  simp [h]
theorem sum_one {a : D} (ha : Nm a) : sumD [a] = a := by
  obtain ⟨p, q, rfl, N⟩ := ha
  show low (0 * q + p * 1) (1 * q) = _
  rw [Int.zero_mul, Int.zero_add, Int.mul_one, Int.one_mul]
  exact low_id N.red
theorem plus_sum {L : List D} {c : D} (hL : ∀ d ∈ L, Nw d) (hl : L.length ≤ 6) (hc : Nw c) (st : S) : g_plus [sumD L, c] st = .ok (sumD (L ++ [c])) st := by
  obtain ⟨p, q, rfl, N⟩ := hc
  have b := bd_fold L 0 (0, 1) bd0 hL
  rw [Nat.zero_add] at b
  have z := plus_low b hl N st
  rw [show sumD (L ++ [fr p q]) = low ((L.foldl fs (0, 1)).1 * q + p * (L.foldl fs (0, 1)).2) ((L.foldl fs (0, 1)).2 * q) from by
    unfold sumD
    rw [List.foldl_append]
    rfl]
  exact z
/-- a lowest fraction of any size -/
def Nx (d : D) : Prop := ∃ p q : Int, d = fr p q ∧ 0 < q ∧ gi p q = 1
theorem Nm.x {d : D} (h : Nm d) : Nx d := by
  obtain ⟨p, q, e, N⟩ := h
  exact ⟨p, q, e, N.pos, N.red⟩
theorem Nw.x {d : D} (h : Nw d) : Nx d := by
  obtain ⟨p, q, e, N⟩ := h
  exact ⟨p, q, e, N.pos, N.red⟩
theorem low_nx {p q : Int} (hq : 0 < q) : Nx (low p q) := by
  obtain ⟨g, a, b, hg, e1, e2, hb, hr, e⟩ := low_spec (p := p) hq
  exact ⟨a, b, e, hb, hr⟩
theorem sum_nx {L : List D} (hL : ∀ d ∈ L, Nw d) : Nx (sumD L) := by
  have b := bd_fold L 0 (0, 1) bd0 hL
  exact low_nx b.pos
theorem law_is_nx {d : D} (h : Nx d) (st : S) : g__law_is [d, d] st = .ok (.bl true) st := by
  obtain ⟨p, q, rfl, _, _⟩ := h
  rw [is_ok]
  simp
/-! ### the value at a point -/
abbrev prods (f pt : List D) : List D := List.zipWith mulD f pt
theorem prods_nw {f pt : List D} (hf : ∀ d ∈ f, Nm d) (hp : ∀ d ∈ pt, Nm d) : ∀ d ∈ prods f pt, Nw d := by
  intro d hd
  obtain ⟨i, hi, e⟩ := List.mem_iff_getElem.mp hd
  subst e
  simp only [prods, List.length_zipWith] at hi
  simp only [prods, List.getElem_zipWith]
  exact mul_nw (hf _ (List.getElem_mem _)) (hp _ (List.getElem_mem _))
noncomputable abbrev vaB : FS := sSet 2 (fCall g_plus (fCons (fVar 2) (fCons (fCall g_times (fCons (fVar 3) (fCons (fVar 4) (fNil)))) (fNil))))
theorem value_at_ok {a : D} {f pt : List D} (ha : Nm a) (hf : ∀ d ∈ f, Nm d) (hp : ∀ d ∈ pt, Nm d) (hl : f.length = pt.length) (h6 : f.length ≤ 6) (st : S) :
    g_value_at [.tup (a :: f), .tup pt] st = .ok (sumD (a :: prods f pt)) st := by
  have aw : ∀ d ∈ a :: prods f pt, Nw d := fun d hd => by
    rcases List.mem_cons.mp hd with e | e
    · rw [e]; exact ha.w
    · exact prods_nw hf hp d e
  have zl : (zipD f pt).map (un2 mulD) = prods f pt := zip_un mulD f pt
  obtain ⟨ρ', st', e1, x, y, e2, e3, e4⟩ := loop_inv (chk := fun _ => true) (t := tgTup [tgN 3, tgN 4]) (body := vaB)
    (I := fun don cs ρ s => ∃ x y : Option D, ρ = [some (.tup (a :: f)), some (.tup pt), some (sumD (a :: don.map (un2 mulD))), x, y] ∧ s = st ∧ don ++ cs = zipD f pt)
    (fun don d cs ρ s ⟨x, y, e, es, h⟩ => by
      subst e es
      have hd : d ∈ zipD f pt := by rw [← h]; simp
      obtain ⟨c, n, rfl, hc, hn⟩ := zip_mem hd
      have t1 := times_nm (hf c hc) (hp n hn) s
      have hw : ∀ d' ∈ a :: don.map (un2 mulD), Nw d' := fun d' h' => aw d' (by
        rcases List.mem_cons.mp h' with e | e
        · rw [e]; exact List.mem_cons_self
        · refine List.mem_cons_of_mem _ ?_
          rw [← zl, ← h, List.map_append]
          exact List.mem_append_left _ e)
      have hlen : (a :: don.map (un2 mulD)).length ≤ 6 := by
        have := congrArg List.length h
        rw [List.length_append, List.length_cons, zipD_len] at this
        rw [List.length_cons, List.length_map]
        omega
      have p1 := plus_sum hw hlen (mul_nw (hf c hc) (hp n hn)) s
      refine ⟨rfl, _, rfl, [some (.tup (a :: f)), some (.tup pt), some (sumD (a :: (don ++ [D.tup [c, n]]).map (un2 mulD))), some c, some n], s, .inl ?_, some c, some n, rfl, rfl, by rw [List.append_assoc]; exact h⟩
      rw [List.map_append, ← List.cons_append]
      show _ = SO.nx [_, _, some (sumD (a :: don.map (un2 mulD) ++ [mulD c n])), _, _] s
      simp [t1, p1])
    (fun _ _ _ _ => rfl) (zipD f pt) [] [some (.tup (a :: f)), some (.tup pt), some a, none, none] st ⟨none, none, by rw [List.map_nil, sum_one ha], rfl, rfl⟩
  have h1 : ((pt.length : Nat) : Int) = (f.length : Int) + 1 - 1 := by omega
  have lp : sForI (fZip (fCons (fSl gSl (fVar 0) (fPart (fC (.int 1))) (fNo)) (fCons (fVar 1) (fNil)))) (tgTup [tgN 3, tgN 4]) vaB [some (.tup (a :: f)), some (.tup pt), some a, none, none] st = .nx [some (.tup (a :: f)), some (.tup pt), some (sumD (a :: prods f pt)), x, y] st := by
    unfold sForI
    have ef : fZip (fCons (fSl gSl (fVar 0) (fPart (fC (.int 1))) (fNo)) (fCons (fVar 1) (fNil))) [some (.tup (a :: f)), some (.tup pt), some a, none, none] st = .ok (zipD f pt, fun _ => true) st := by
      unfold fZip
      simp [cut_tl]
    rw [ef, Out.so_ok, e1, e2, e3, List.nil_append, zl]
  unfold g_value_at arN
  rw [if_pos (show [D.tup (a :: f), D.tup pt].length = 2 from rfl), den_ap]
  show ((sSeq _ (sSeq _ (sSeq (sForI _ _ _) _))) [some (.tup (a :: f)), some (.tup pt), none, none, none] st).out = _
  have f1 : (sIf (fIsB (fBin gNe (fArgs gLen (fCons (fVar 1) (fNil))) (fBin gSub (fArgs gLen (fCons (fVar 0) (fNil))) (fC (.int 1))))) (sRaise ("BadForm" : Str) [("form" : Str)] (fCons (fVar 0) (fNil))) (sSkip)) [some (.tup (a :: f)), some (.tup pt), none, none, none] st = .nx [some (.tup (a :: f)), some (.tup pt), none, none, none] st := by
    simp [hl]
  have f2 : (sSet 2 (fBin gIx (fVar 0) (fC (.int 0)))) [some (.tup (a :: f)), some (.tup pt), none, none, none] st = .nx [some (.tup (a :: f)), some (.tup pt), some a, none, none] st := by simp
  rw [sSeq_ap, f1, then_nx, sSeq_ap, f2, then_nx, sSeq_ap, lp, then_nx]
  rfl
theorem worth_ok {a : D} {f pt : List D} (ha : Nm a) (hf : ∀ d ∈ f, Nm d) (hp : ∀ d ∈ pt, Nm d) (hl : f.length = pt.length) (h6 : f.length ≤ 6) (st : S) :
    ∃ os, g__law_worth [.tup (a :: f), .tup pt] st = .ok (sumD (a :: prods f pt)) (st ++ os) := by
  have pl : (prods f pt).length = pt.length := by simp [prods, hl]
  obtain ⟨y, os, e⟩ := build_loop (i := 3) (r := 2) (fe := fCall g__law_product (fCons (fBin gIx (fVar 0) (fBin gAdd (fVar 3) (fC (.int 1)))) (fCons (fBin gIx (fVar 1) (fVar 3)) (fNil)))) (ρ0 := [some (.tup (a :: f)), some (.tup pt), some (.loc st.length), none]) (st0 := st) (chk := fun _ => true)
    (nthD (prods f pt)) (fun _ => rfl) (rangeD 0 (pt.length : Int)) [a] [] none (by rw [rangeD_len]; exact short (by simp; omega)) (fun _ _ => rfl) (fun d hd xs os => by
      obtain ⟨k, hk, rfl⟩ := mem_rng hd
      refine ⟨[], ?_⟩
      have a1 : L2.atI (a :: f) ((k : Int) + 1) = some (f[k]'(by omega)) := atI_nat (xs := a :: f) (k := k + 1) (by simp [List.getElem?_eq_getElem (show k < f.length by omega)])
      have a2 : L2.atI pt (k : Int) = some pt[k] := atI_nat (List.getElem?_eq_getElem hk)
      have p1 := product_nm (hf (f[k]'(by omega)) (List.getElem_mem _)) (hp pt[k] (List.getElem_mem _)) (st ++ [.lst xs] ++ os)
      rw [nth_at (by omega)]
      simp only [prods, List.getElem_zipWith]
      simp [a1, a2, p1] at p1 ⊢
      simp [p1])
  rw [show (pt.length : Int) = ((prods f pt).length : Int) by omega, rng_nth] at e
  have aw : ∀ d ∈ a :: prods f pt, Nw d := fun d hd => by
    rcases List.mem_cons.mp hd with e | e
    · rw [e]; exact ha.w
    · exact prods_nw hf hp d e
  have s1 := sum_ok (lstAt_lst (at_mid st os (.lst (a :: prods f pt)))) aw (by rw [List.length_cons]; omega)
  refine ⟨[.lst (a :: prods f pt)] ++ os, ?_⟩
  rw [← List.append_assoc]
  unfold g__law_worth arN
  rw [if_pos (show [D.tup (a :: f), D.tup pt].length = 2 from rfl), den_ap]
  show ((sSeq _ (sSeq (sForR1 _ _ _) _)) [some (.tup (a :: f)), some (.tup pt), none, none] st).out = _
  have f1 : (sSet 2 (fLst (fCons (fBin gIx (fVar 0) (fC (.int 0))) (fNil)))) [some (.tup (a :: f)), some (.tup pt), none, none] st = .nx [some (.tup (a :: f)), some (.tup pt), some (.loc st.length), none] (st ++ [.lst [a]]) := by simp
  rw [sSeq_ap, f1, then_nx, sSeq_ap, sForR1_ok (j := (pt.length : Int)) (st1 := st ++ [.lst [a]]) (by simp) (small_nat (by omega))]
  rw [show (pt.length : Int) = ((prods f pt).length : Int) by omega]
  rw [List.append_nil] at e
  refine (congrArg (fun o : SO => (o.then_ (sRet (fCall g__law_sum (fCons (fVar 2) (fNil))))).out) e).trans ?_
  show ((sRet (fCall g__law_sum (fCons (fVar 2) (fNil)))) [some (.tup (a :: f)), some (.tup pt), some (.loc st.length), y] (st ++ [.lst (a :: prods f pt)] ++ os)).out = _
  unfold sumD
  simp only [sRet_ap, fCall_ap, fCons_ap, fVar_ap, List.getElem?_cons_succ, List.getElem?_cons_zero, Out.bind_ok, fNil_ap, s1, Out.so_ok, out_rt]
end K03

set_option Elab.async false
set_option linter.all false
set_option maxRecDepth 100000
set_option maxHeartbeats 4000000
namespace K03
open PySem MP
noncomputable abbrev fiB : FS := sIf (fNot (fTru (fCall g__law_is (fCons (fBin gIx (fVar 0) (fVar 2)) (fCons (fBin gIx (fVar 1) (fVar 2)) (fNil)))))) (sRet (fC (.bl false))) (sSkip)
theorem form_is_ok {f : List D} (hf : ∀ d ∈ f, Nx d) (hl : f.length ≤ 1000) (st : S) : g__law_form_is [.tup f, .tup f] st = .ok (.bl true) st := by
  obtain ⟨y, e⟩ := loop_keep (i := 2) (body := fiB) (ρ0 := [some (.tup f), some (.tup f), none]) (chk := fun _ => true) (s0 := st) rfl (rangeD 0 (f.length : Int)) none (fun d hd => by
    obtain ⟨k, hk, rfl⟩ := mem_rng hd
    have a1 : L2.atI f (k : Int) = some f[k] := atI_nat (List.getElem?_eq_getElem hk)
    have i1 := law_is_nx (hf f[k] (List.getElem_mem _)) st
    simp [a1, i1])
  unfold g__law_form_is arN
  rw [if_pos (show [D.tup f, D.tup f].length = 2 from rfl), den_ap]
  show ((sSeq _ (sSeq (sForR1 _ _ _) _)) [some (.tup f), some (.tup f), none] st).out = _
  have f1 : (sIf (fOr (fNot (fTru (fUn (gIsi "tuple") (fVar 0)))) (fIsB (fBin gNe (fArgs gLen (fCons (fVar 0) (fNil))) (fArgs gLen (fCons (fVar 1) (fNil)))))) (sRet (fC (.bl false))) (sSkip)) [some (.tup f), some (.tup f), none] st = .nx [some (.tup f), some (.tup f), none] st := by
    simp [gIsi, isiT, tyD]
  rw [sSeq_ap, f1, then_nx, sSeq_ap, sForR1_ok (j := (f.length : Int)) (st1 := st) (by simp) (small_nat (by omega))]
  refine (congrArg (fun o : SO => (o.then_ (sRet (fC (.bl true)))).out) e).trans ?_
  rfl
theorem pow40 : ∃ T : Int, T = 10 ^ 40 ∧ ∀ s : S, gPow (.int 10) (.int 40) s = some (.int T, s) := ⟨10 ^ 40, rfl, fun s => by
  rw [gPow_int, if_pos (by decide)]
  rfl⟩
noncomputable abbrev kpB : FS := sIf (fOr (fIsB (fBin gGe (fArgs gAbs (fCons (fBin gIx (fVar 1) (fC (.int 0))) (fNil))) (fBin gPow (fC (.int 10)) (fC (.int 40))))) (fIsB (fBin gGe (fBin gIx (fVar 1) (fC (.int 1))) (fBin gPow (fC (.int 10)) (fC (.int 40)))))) (sRet (fC (.bl false))) (sSkip)
theorem keeps_loop (F : D) (st : S) : ∀ (ds : List D) (x : Option D), (∀ d ∈ ds, Nx d) → sLoop (fun _ => true) (tgN 1) kpB ds [some F, x] st = .rt (.bl false) st ∨ ((∀ d ∈ ds, Nm d) ∧ ∃ y, sLoop (fun _ => true) (tgN 1) kpB ds [some F, x] st = .nx [some F, y] st)
  | [], x, _ => .inr ⟨fun _ h => (nomatch h), x, rfl⟩
  | d :: ds, x, h => by
    obtain ⟨p, q, rfl, hq, hr⟩ := h d List.mem_cons_self
    obtain ⟨T, hT, eT⟩ := pow40
    by_cases c : absI p < T ∧ q < T
    · have n1 : ¬ T ≤ absI p := by omega
      have n2 : ¬ T ≤ q := by omega
      have b1 : kpB [some F, some (fr p q)] st = .nx [some F, some (fr p q)] st := by simp [eT, n1, n2]
      have un : sLoop (fun _ => true) (tgN 1) kpB (fr p q :: ds) [some F, x] st = sLoop (fun _ => true) (tgN 1) kpB ds [some F, some (fr p q)] st := by
        conv => lhs; unfold sLoop
        rw [if_pos rfl]
        show (match kpB [some F, some (fr p q)] st with
          | .nx ρ2 st2 => sLoop (fun _ => true) (tgN 1) kpB ds ρ2 st2
          | .ct ρ2 st2 => sLoop (fun _ => true) (tgN 1) kpB ds ρ2 st2
          | .bk ρ2 st2 => .nx ρ2 st2
          | .rt d st2 => .rt d st2
          | .ex e ρ2 st2 => .ex e ρ2 st2
          | .bad => .bad) = _
        rw [b1]
      rw [un]
      rcases keeps_loop F st ds (some (fr p q)) (fun d' h' => h d' (List.mem_cons_of_mem _ h')) with e | ⟨hn, y, e⟩
      · exact .inl e
      · refine .inr ⟨fun d' h' => ?_, y, e⟩
        rcases List.mem_cons.mp h' with e | e
        · rw [e]
          have c1 := c.1
          unfold absI at c1
          exact ⟨p, q, rfl, hq, hr, by omega, by omega⟩
        · exact hn d' e
    · left
      have b1 : kpB [some F, some (fr p q)] st = .rt (.bl false) st := by
        by_cases c1 : T ≤ absI p
        · simp [eT, c1]
        · have c2 : T ≤ q := by omega
          simp [eT, c1, c2]
      conv => lhs; unfold sLoop
      rw [if_pos rfl]
      show (match kpB [some F, some (fr p q)] st with
        | .nx ρ2 st2 => sLoop (fun _ => true) (tgN 1) kpB ds ρ2 st2
        | .ct ρ2 st2 => sLoop (fun _ => true) (tgN 1) kpB ds ρ2 st2
        | .bk ρ2 st2 => .nx ρ2 st2
        | .rt d st2 => .rt d st2
        | .ex e ρ2 st2 => .ex e ρ2 st2
        | .bad => .bad) = _
      rw [b1]
theorem keeps_ok {f : List D} (hf : ∀ d ∈ f, Nx d) (st : S) : ∃ b, g__law_keeps [.tup f] st = .ok (.bl b) st ∧ (b = true → ∀ d ∈ f, Nm d) := by
  have m : ∀ s : S, g__law_keeps [.tup f] s = ((sLoop (fun _ => true) (tgN 1) kpB f [some (.tup f), none] s).then_ (sRet (fC (.bl true)))).out := fun s => by
    unfold g__law_keeps arN
    rw [if_pos (show [D.tup f].length = 1 from rfl), den_ap]
    show ((sSeq (sFor (fVar 0) (tgN 1) kpB) _) [some (.tup f), none] s).out = _
    rw [sSeq_ap, sFor_tup (ds := f) (st1 := s) rfl]
  rcases keeps_loop (.tup f) st f none hf with e | ⟨hn, y, e⟩
  · exact ⟨false, by rw [m, e]; rfl, fun h => by cases h⟩
  · exact ⟨true, by rw [m, e]; rfl, fun _ => hn⟩
theorem agrees_ok {f pt : List D} (hf : ∀ d ∈ f, Nx d) (hp : ∀ d ∈ pt, Nm d) (hl : f.length = pt.length + 1) (h6 : pt.length ≤ 6) (st : S) : ∃ os, g__law_agrees [.tup f, .tup f, .tup pt] st = .ok (.bl true) (st ++ os) := by
  have e1 := form_is_ok hf (by omega) st
  obtain ⟨b, e2, hb⟩ := keeps_ok hf st
  cases b with
  | false => exact ⟨[], by rw [List.append_nil]; simp [g__law_agrees, arN, den_ap, m__law_agrees, e1, e2]⟩
  | true =>
    have hn := hb rfl
    cases f with
    | nil => simp at hl
    | cons a f =>
      have hl' : f.length = pt.length := by simpa using hl
      have ha := hn a List.mem_cons_self
      have hf' : ∀ d ∈ f, Nm d := fun d h => hn d (List.mem_cons_of_mem _ h)
      have e3 := value_at_ok ha hf' hp hl' (by omega) st
      obtain ⟨os, e4⟩ := worth_ok ha hf' hp hl' (by omega) st
      have aw : ∀ d ∈ a :: prods f pt, Nw d := fun d hd => by
        rcases List.mem_cons.mp hd with e | e
        · rw [e]; exact ha.w
        · exact prods_nw hf' hp d e
      have e5 := law_is_nx (sum_nx aw) (st ++ os)
      exact ⟨os, by simp [g__law_agrees, arN, den_ap, m__law_agrees, e1, e2, e3, e4, e5]⟩
/-! ### the sums by columns -/
def colD (i : Nat) : D → D
  | .tup f => f.getD i .non
  | d => d
def cols (fms : List (List D)) (w : Nat) : List D := (List.range (w + 1)).map fun i => sumD (fms.map fun f => f.getD i .non)
structure Fm (w : Nat) (f : List D) : Prop where
  len : f.length = w + 1
  nm : ∀ d ∈ f, Nm d
theorem Fm.at_ {w i : Nat} {f : List D} (h : Fm w f) (hi : i < w + 1) : ∃ hi' : i < f.length, f.getD i .non = f[i] := by
  have := h.len
  exact ⟨by omega, by simp [show i < f.length by omega]⟩
theorem forms_sum_ok {k w : Nat} {st : S} {fms : List (List D)} (hk : lstAt st k = some (fms.map D.tup)) (hf : ∀ f ∈ fms, Fm w f) (hl : fms.length ≤ 7) (hw : w ≤ 10) :
    ∃ os, g__law_forms_sum [.loc k, .int w] st = .ok (.tup (cols fms w)) (st ++ os) := by
  have cl : (cols fms w).length = w + 1 := by simp [cols]
  obtain ⟨y, os, e⟩ := build_loop (i := 3) (r := 2) (fe := fCall g__law_sum (fCons (fLc [4] (fSeq (fVar 0)) (tgN 4) (fYes) (fBin gIx (fVar 4) (fVar 3))) (fNil))) (ρ0 := [some (.loc k), some (.int w), some (.loc st.length), none, none]) (st0 := st) (chk := fun _ => true)
    (nthD (cols fms w)) (fun _ => rfl) (rangeD 0 ((w + 1 : Nat) : Int)) [] [] none (by rw [rangeD_len]; exact short (by simp; omega)) (fun _ _ => rfl) (fun d hd xs os => by
      obtain ⟨i, hi, rfl⟩ := mem_rng hd
      generalize hs : st ++ [Ob.lst xs] ++ os = s
      have lk : lstAt s k = some (fms.map D.tup) := by rw [← hs, List.append_assoc]; exact lst_app _ hk
      have e1 := fLc_map (own := [4]) (fi := fSeq (fVar 0)) (g := tgN 4) (fe := fBin gIx (fVar 4) (fVar 3)) (ρ := [some (.loc k), some (.int w), some (.loc st.length), some (.int i), none]) (st := s) (st1 := s) (ds := fms.map D.tup) (chk := fun s => decide (lstAt s k = some (fms.map D.tup))) (F := colD i)
        (by simp [lk]) (short (by rw [List.length_map]; omega)) (fun xs => decide_eq_true (lst_app _ lk)) (fun d hd xs => by
          obtain ⟨f, hfm, rfl⟩ := List.mem_map.mp hd
          obtain ⟨h1, h2⟩ := (hf f hfm).at_ hi
          have a1 : L2.atI f (i : Int) = some f[i] := atI_nat (List.getElem?_eq_getElem h1)
          exact ⟨_, rfl, by simp [wipeE, a1, colD, h1]⟩)
      rw [List.map_map, show (colD i ∘ D.tup) = fun f => f.getD i .non from rfl] at e1
      have hn : ∀ d ∈ fms.map (fun f => f.getD i D.non), Nw d := fun d hd => by
        obtain ⟨f, hfm, rfl⟩ := List.mem_map.mp hd
        obtain ⟨h1, h2⟩ := (hf f hfm).at_ hi
        show Nw (f.getD i D.non)
        rw [h2]
        exact ((hf f hfm).nm _ (List.getElem_mem _)).w
      have e2 := sum_ok (lstAt_lst (app_new (st := s) (o := .lst (fms.map fun f => f.getD i D.non)))) hn (by rw [List.length_map]; omega)
      refine ⟨[.lst (fms.map fun f => f.getD i .non)], ?_⟩
      rw [← List.append_assoc, hs, nth_at (by omega)]
      simp only [cols, List.getElem_map, List.getElem_range]
      unfold sumD
      show ((fLc [4] _ _ _ _ [some (.loc k), some (.int w), some (.loc st.length), some (.int i), none] s).bind _).bind _ = _
      rw [e1]
      simp only [Out.bind_ok, fNil_ap, e2])
  rw [show ((w + 1 : Nat) : Int) = ((cols fms w).length : Int) by omega, rng_nth, List.nil_append] at e
  refine ⟨[.lst (cols fms w)] ++ os, ?_⟩
  rw [← List.append_assoc]
  unfold g__law_forms_sum arN
  rw [if_pos (show [D.loc k, D.int w].length = 2 from rfl), den_ap]
  show ((sSeq _ (sSeq (sForR1 _ _ _) _)) [some (.loc k), some (.int w), none, none, none] st).out = _
  have f1 : (sSet 2 (fLst (fNil))) [some (.loc k), some (.int w), none, none, none] st = .nx [some (.loc k), some (.int w), some (.loc st.length), none, none] (st ++ [.lst []]) := by simp
  rw [sSeq_ap, f1, then_nx, sSeq_ap, sForR1_ok (j := ((cols fms w).length : Int)) (st1 := st ++ [.lst []]) (by simp [cl]) (small_nat (by omega))]
  rw [List.append_nil] at e
  refine (congrArg (fun o : SO => (o.then_ (sRet (fArgs gTuple (fCons (fVar 2) (fNil))))).out) e).trans ?_
  have gt := gTuple_loc (lstAt_lst (at_mid st os (.lst (cols fms w))))
  show ((sRet (fArgs gTuple (fCons (fVar 2) (fNil)))) [some (.loc k), some (.int w), some (.loc st.length), y, none] (st ++ [.lst (cols fms w)] ++ os)).out = _
  simp only [sRet_ap, fArgs_ap, fCons_ap, fVar_ap, List.getElem?_cons_succ, List.getElem?_cons_zero, Out.bind_ok, fNil_ap, gt, ofO, Out.so_ok, out_rt]
end K03

set_option Elab.async false
set_option linter.all false
set_option maxRecDepth 100000
set_option maxHeartbeats 4000000
namespace K03
open PySem MP
theorem add_nx {a b : D} (ha : Nm a) (hb : Nm b) : Nx (addD a b) := by
  obtain ⟨p, q, rfl, N⟩ := ha
  obtain ⟨r, s, rfl, M⟩ := hb
  exact low_nx (Int.mul_pos N.pos M.pos)
theorem zw_nx {f g : List D} (hf : ∀ d ∈ f, Nm d) (hg : ∀ d ∈ g, Nm d) : ∀ d ∈ List.zipWith addD f g, Nx d := by
  intro d hd
  obtain ⟨i, hi, e⟩ := List.mem_iff_getElem.mp hd
  subst e
  simp only [List.length_zipWith] at hi
  simp only [List.getElem_zipWith]
  exact add_nx (hf _ (List.getElem_mem _)) (hg _ (List.getElem_mem _))
theorem cols_two {w : Nat} {f g : List D} (hf : Fm w f) (hg : Fm w g) : cols [f, g] w = List.zipWith addD f g := by
  refine List.ext_getElem (by simp [cols, hf.len, hg.len]) fun i h1 h2 => ?_
  have hi : i < w + 1 := by simpa [cols] using h1
  obtain ⟨k1, e1⟩ := hf.at_ hi
  obtain ⟨k2, e2⟩ := hg.at_ hi
  simp only [cols, List.getElem_map, List.getElem_range, List.map_cons, List.map_nil, e1, e2, List.getElem_zipWith]
  exact sum_two (hf.nm _ (List.getElem_mem _)) (hg.nm _ (List.getElem_mem _))
abbrev m1 : D := fr (-1) 1
theorem nm_m1 : Nm m1 := nm_one (by decide) (by decide)
theorem nm_01 : Nm (fr 0 1) := nm_one (by decide) (by decide)
theorem nm_11 : Nm (fr 1 1) := nm_one (by decide) (by decide)
theorem mul_m1 {p q : Int} (N : Nu p q) : mulD (fr p q) m1 = fr (-p) q := by
  show low (p * -1) (q * 1) = _
  rw [Int.mul_one, show p * -1 = -p by omega]
  refine low_id ?_
  have h := N.red
  unfold gi at h ⊢
  rw [Int.natAbs_neg]
  exact h
theorem neg_nm {d : D} (h : Nm d) : Nm (mulD d m1) := by
  obtain ⟨p, q, rfl, N⟩ := h
  rw [mul_m1 N]
  refine ⟨-p, q, rfl, N.pos, ?_, ?_, N.bot⟩
  · have h := N.red
    unfold gi at h ⊢
    rw [Int.natAbs_neg]
    exact h
  · have := N.top
    omega
theorem neg_fm {w : Nat} {f : List D} (h : Fm w f) : Fm w (f.map (mulD · m1)) := ⟨by rw [List.length_map]; exact h.len, fun d hd => by
  obtain ⟨x, hx, rfl⟩ := List.mem_map.mp hd
  exact neg_nm (h.nm x hx)⟩
theorem add_sub {a b : D} (ha : Nm a) (hb : Nm b) : addD a (mulD b m1) = subD a b := by
  obtain ⟨p, q, rfl, N⟩ := ha
  obtain ⟨r, s, rfl, M⟩ := hb
  rw [mul_m1 M]
  show low (p * s + -r * q) (q * s) = low (p * s - r * q) (q * s)
  rw [Int.neg_mul]
  rfl
theorem cols_sub {w : Nat} {f g : List D} (hf : Fm w f) (hg : Fm w g) : cols [f, g.map (mulD · m1)] w = List.zipWith subD f g := by
  rw [cols_two hf (neg_fm hg)]
  refine List.ext_getElem (by simp) fun i h1 h2 => ?_
  simp only [List.getElem_zipWith, List.getElem_map]
  exact add_sub (hf.nm _ (List.getElem_mem _)) (hg.nm _ (List.getElem_mem _))
theorem scl_nx {f : List D} {x : D} (hf : ∀ d ∈ f, Nm d) (hx : Nm x) : ∀ d ∈ f.map (mulD · x), Nx d := fun d hd => by
  obtain ⟨y, hy, rfl⟩ := List.mem_map.mp hd
  exact (mul_nw (hf y hy) hx).x
theorem is_val {w : Nat} {f pt : List D} (hf : Fm w f) (hp : ∀ d ∈ pt, Nm d) (hl : pt.length = w) (h6 : w ≤ 6) (st : S) :
    ∃ v os, g_value_at [.tup f, .tup pt] st = .ok v st ∧ g__law_worth [.tup f, .tup pt] st = .ok v (st ++ os) ∧ Nx v := by
  cases f with
  | nil => have := hf.len; simp at this
  | cons a f =>
    have hl' : f.length = pt.length := by have := hf.len; simp at this; omega
    have ha := hf.nm a List.mem_cons_self
    have hf' : ∀ d ∈ f, Nm d := fun d h => hf.nm d (List.mem_cons_of_mem _ h)
    obtain ⟨os, e4⟩ := worth_ok ha hf' hp hl' (by omega) st
    have aw : ∀ d ∈ a :: prods f pt, Nw d := fun d hd => by
      rcases List.mem_cons.mp hd with e | e
      · rw [e]; exact ha.w
      · exact prods_nw hf' hp d e
    exact ⟨_, os, value_at_ok ha hf' hp hl' (by omega) st, e4, sum_nx aw⟩
noncomputable abbrev twB : FS := sIf (fNot (fTru (fCall g__law_agrees (fCons (fCall g_form_times (fCons (fVar 0) (fCons (fVar 6) (fNil)))) (fCons (fCall g__law_scaled (fCons (fVar 0) (fCons (fVar 6) (fNil)))) (fCons (fVar 2) (fNil))))))) (sRet (fC (.bl false))) (sSkip)
abbrev twE (f g pt : List D) (x : D) (w : Nat) (lg : D) (y : Option D) : En := [some (.tup f), some (.tup g), some (.tup pt), some x, some (.int w), some lg, y]
theorem tw_loop {w : Nat} {f g pt : List D} {x lg : D} (hf : Fm w f) (hp : ∀ d ∈ pt, Nm d) (hl : pt.length = w) (h6 : w ≤ 6) (L : List D) (xs : ∀ d ∈ L, Nm d) (s8 : S) :
    ∃ y o9, sLoop (fun s => decide (lstAt s s8.length = some L)) (tgN 6) twB L (twE f g pt x w lg none) (s8 ++ [.lst L]) = .nx (twE f g pt x w lg y) (s8 ++ [.lst L] ++ o9) := by
  have fl := hf.len
  exact loop_app (i := 6) (body := twB) (ρ0 := twE f g pt x w lg none) (chk := fun s => decide (lstAt s s8.length = some L)) L (s8 ++ [.lst L]) none
    (fun os => decide_eq_true (lst_app _ (lstAt_lst app_new))) (fun d hd os => by
      have hd' := xs d hd
      obtain ⟨oa, a1⟩ := form_times_ok hf.nm hd' (by omega) (s8 ++ [.lst L] ++ os)
      obtain ⟨ob, a2⟩ := scaled_ok hf.nm hd' (by omega) (s8 ++ [.lst L] ++ os ++ oa)
      obtain ⟨oc, a3⟩ := agrees_ok (scl_nx hf.nm hd') hp (by rw [List.length_map]; omega) (by omega) (s8 ++ [.lst L] ++ os ++ oa ++ ob)
      refine ⟨oa ++ ob ++ oc, ?_⟩
      generalize s8 ++ [Ob.lst L] ++ os = t0 at a1 a2 a3 ⊢
      rw [← List.append_assoc, ← List.append_assoc]
      show twB (twE f g pt x w lg (some d)) t0 = .nx (twE f g pt x w lg (some d)) (t0 ++ oa ++ ob ++ oc)
      simp only [twB, twE, sIf_ap, fNot_ap, fTru_ap, fCall_ap, fCons_ap, fVar_ap, List.getElem?_cons_succ, List.getElem?_cons_zero, Out.bind_ok, fNil_ap, a1, a2, a3, truD_bl, Out.so_ok, Bool.not_true, Bool.false_eq_true, if_false, sSkip_ap])
theorem two_right_ok {w : Nat} {f g pt : List D} {x : D} (hf : Fm w f) (hg : Fm w g) (hp : ∀ d ∈ pt, Nm d) (hl : pt.length = w) (h6 : w ≤ 6) (hx : Nm x) (st : S) :
    ∃ os, g__law_two_right [.tup f, .tup g, .tup pt, x] st = .ok (.bl true) (st ++ os) := by
  have fl := hf.len
  have gl := hg.len
  obtain ⟨o1, e1⟩ := scaled_ok hg.nm nm_m1 (by omega) st
  obtain ⟨v, o2, e2, e3, hv⟩ := is_val hf hp hl h6 (st ++ o1)
  have e4 := law_is_nx hv (st ++ o1 ++ o2)
  obtain ⟨o3, e5⟩ := form_plus_ok hf.nm hg.nm (by omega) (st ++ o1 ++ o2)
  generalize h3 : st ++ o1 ++ o2 ++ o3 = s3 at e5
  obtain ⟨o4, e6⟩ := forms_sum_ok (fms := [f, g]) (w := w) (lstAt_lst (app_new (st := s3) (o := .lst [.tup f, .tup g]))) (fun h hh => by
    simp only [List.mem_cons, List.not_mem_nil, or_false] at hh
    rcases hh with e | e <;> rw [e] <;> assumption) (by simp) (by omega)
  rw [cols_two hf hg] at e6
  obtain ⟨o5, e7⟩ := agrees_ok (zw_nx hf.nm hg.nm) hp (by rw [List.length_zipWith]; omega) (by omega) (s3 ++ [.lst [.tup f, .tup g]] ++ o4)
  generalize h5 : s3 ++ [Ob.lst [.tup f, .tup g]] ++ o4 ++ o5 = s5 at e7
  obtain ⟨o6, e8⟩ := form_minus_ok hf.nm hg.nm (by omega) s5
  generalize h6' : s5 ++ o6 = s6 at e8
  obtain ⟨o7, e9⟩ := forms_sum_ok (fms := [f, g.map (mulD · m1)]) (w := w) (lstAt_lst (app_new (st := s6) (o := .lst [.tup f, .tup (g.map (mulD · m1))]))) (fun h hh => by
    simp only [List.mem_cons, List.not_mem_nil, or_false] at hh
    rcases hh with e | e
    · rw [e]; exact hf
    · rw [e]; exact neg_fm hg) (by simp) (by omega)
  rw [cols_sub hf hg] at e9
  have sx : ∀ d ∈ List.zipWith subD f g, Nx d := by
    rw [← cols_sub hf hg, cols_two hf (neg_fm hg)]
    exact zw_nx hf.nm (neg_fm hg).nm
  obtain ⟨o8, e10⟩ := agrees_ok sx hp (by rw [List.length_zipWith]; omega) (by omega) (s6 ++ [.lst [.tup f, .tup (g.map (mulD · m1))]] ++ o7)
  generalize h8 : s6 ++ [Ob.lst [.tup f, .tup (g.map (mulD · m1))]] ++ o7 ++ o8 = s8 at e10
  have xs : ∀ d ∈ [x, m1, fr 0 1], Nm d := fun d hd => by
    simp only [List.mem_cons, List.not_mem_nil, or_false] at hd
    rcases hd with e | e | e <;> rw [e]
    · exact hx
    · exact nm_m1
    · exact nm_01
  obtain ⟨y, o9, e11⟩ := tw_loop (g := g) (x := x) (lg := .tup (g.map (mulD · m1))) hf hp hl h6 [x, m1, fr 0 1] xs s8
  refine ⟨o1 ++ (o2 ++ (o3 ++ ([.lst [.tup f, .tup g]] ++ (o4 ++ (o5 ++ (o6 ++ ([.lst [.tup f, .tup (g.map (mulD · m1))]] ++ (o7 ++ (o8 ++ ([.lst [x, m1, fr 0 1]] ++ o9)))))))))), ?_⟩
  rw [show st ++ (o1 ++ (o2 ++ (o3 ++ ([Ob.lst [.tup f, .tup g]] ++ (o4 ++ (o5 ++ (o6 ++ ([.lst [.tup f, .tup (g.map (mulD · m1))]] ++ (o7 ++ (o8 ++ ([.lst [x, m1, fr 0 1]] ++ o9))))))))))) = s8 ++ [.lst [x, m1, fr 0 1]] ++ o9 from by
    rw [← h8, ← h6', ← h5, ← h3]
    simp only [List.append_assoc]]
  have L : ∀ (o : SO), o = .nx [some (.tup f), some (.tup g), some (.tup pt), some x, some (.int w), some (.tup (g.map (mulD · m1))), y] (s8 ++ [.lst [x, m1, fr 0 1]] ++ o9) → (o.then_ (sRet (fC (.bl true)))).out = .ok (.bl true) (s8 ++ [.lst [x, m1, fr 0 1]] ++ o9) := fun o h => by rw [h]; rfl
  unfold g__law_two_right arN
  rw [if_pos (show [D.tup f, .tup g, .tup pt, x].length = 4 from rfl), den_ap]
  show (m__law_two_right [some (.tup f), some (.tup g), some (.tup pt), some x, none, none, none] st).out = _
  unfold m__law_two_right
  have f1 : (sSet 4 (fArgs gLen (fCons (fVar 2) (fNil)))) [some (.tup f), some (.tup g), some (.tup pt), some x, none, none, none] st = .nx [some (.tup f), some (.tup g), some (.tup pt), some x, some (.int w), none, none] st := by simp [hl]
  have f2 : (sSet 5 (fCall g__law_scaled (fCons (fVar 1) (fCons (fTup (fCons (fUn gNeg (fC (.int 1))) (fCons (fC (.int 1)) (fNil)))) (fNil))))) [some (.tup f), some (.tup g), some (.tup pt), some x, some (.int w), none, none] st = .nx [some (.tup f), some (.tup g), some (.tup pt), some x, some (.int w), some (.tup (g.map (mulD · m1))), none] (st ++ o1) := by simp [e1]
  have f3 : (sIf (fNot (fTru (fCall g__law_is (fCons (fCall g_value_at (fCons (fVar 0) (fCons (fVar 2) (fNil)))) (fCons (fCall g__law_worth (fCons (fVar 0) (fCons (fVar 2) (fNil)))) (fNil)))))) (sRet (fC (.bl false))) (sSkip)) [some (.tup f), some (.tup g), some (.tup pt), some x, some (.int w), some (.tup (g.map (mulD · m1))), none] (st ++ o1) = .nx [some (.tup f), some (.tup g), some (.tup pt), some x, some (.int w), some (.tup (g.map (mulD · m1))), none] (st ++ o1 ++ o2) := by
    simp only [sIf_ap, fNot_ap, fTru_ap, fCall_ap, fCons_ap, fVar_ap, List.getElem?_cons_succ, List.getElem?_cons_zero, Out.bind_ok, fNil_ap, e2, e3, e4, truD_bl, Out.so_ok, Bool.not_true, Bool.false_eq_true, if_false, sSkip_ap]
  have f4 : (sIf (fNot (fTru (fCall g__law_agrees (fCons (fCall g_form_plus (fCons (fVar 0) (fCons (fVar 1) (fNil)))) (fCons (fCall g__law_forms_sum (fCons (fLst (fCons (fVar 0) (fCons (fVar 1) (fNil)))) (fCons (fVar 4) (fNil)))) (fCons (fVar 2) (fNil))))))) (sRet (fC (.bl false))) (sSkip)) [some (.tup f), some (.tup g), some (.tup pt), some x, some (.int w), some (.tup (g.map (mulD · m1))), none] (st ++ o1 ++ o2) = .nx [some (.tup f), some (.tup g), some (.tup pt), some x, some (.int w), some (.tup (g.map (mulD · m1))), none] s5 := ifn_ok (call_ok (cons_ok (call_ok (cons_ok (v_ok rfl) (cons_ok (v_ok rfl) nil_ok)) e5) (cons_ok (call_ok (cons_ok (lst_ok (cons_ok (v_ok rfl) (cons_ok (v_ok rfl) nil_ok))) (cons_ok (v_ok rfl) nil_ok)) e6) (cons_ok (v_ok rfl) nil_ok))) e7)
  have f5 : (sIf (fNot (fTru (fCall g__law_agrees (fCons (fCall g_form_minus (fCons (fVar 0) (fCons (fVar 1) (fNil)))) (fCons (fCall g__law_forms_sum (fCons (fLst (fCons (fVar 0) (fCons (fVar 5) (fNil)))) (fCons (fVar 4) (fNil)))) (fCons (fVar 2) (fNil))))))) (sRet (fC (.bl false))) (sSkip)) [some (.tup f), some (.tup g), some (.tup pt), some x, some (.int w), some (.tup (g.map (mulD · m1))), none] s5 = .nx [some (.tup f), some (.tup g), some (.tup pt), some x, some (.int w), some (.tup (g.map (mulD · m1))), none] s8 := ifn_ok (call_ok (cons_ok (call_ok (cons_ok (v_ok rfl) (cons_ok (v_ok rfl) nil_ok)) e8) (cons_ok (call_ok (cons_ok (lst_ok (cons_ok (v_ok rfl) (cons_ok (v_ok rfl) nil_ok))) (cons_ok (v_ok rfl) nil_ok)) e9) (cons_ok (v_ok rfl) nil_ok))) e10)
  rw [sSeq_ap, f1, then_nx, sSeq_ap, f2, then_nx, sSeq_ap, f3, then_nx, sSeq_ap, f4, then_nx, sSeq_ap, f5, then_nx, sSeq_ap]
  refine L _ ?_
  rw [sFor_loc (n := s8.length) (st1 := s8 ++ [.lst [x, m1, fr 0 1]]) (ds := [x, m1, fr 0 1]) (by simp) (lstAt_lst app_new)]
  exact e11
end K03

set_option Elab.async false
set_option linter.all false
set_option maxRecDepth 100000
set_option maxHeartbeats 4000000
namespace K03
open PySem MP
noncomputable instance (d : D) : Decidable (Nx d) := Classical.propDecidable _
theorem isnum {d : D} (h : Nx d) (st : S) : g_is_number [d] st = .ok (.bl true) st := by
  obtain ⟨p, q, rfl, hq, hr⟩ := h
  rw [is_number_ok, hr, decide_eq_true (show 1 ≤ q by omega)]
  rfl
theorem truth_ok (b : Bool) (st : S) : g__law_truth_is [.bl b, .bl b] st = .ok (.bl true) st := by
  cases b <;> simp [g__law_truth_is, arN, den_ap, m__law_truth_is, gIsi, isiT, tyD, gEq, eqB]
theorem is_form_any {f : List D} {n : Nat} (hl : f.length = n + 1) (hn : n ≤ 100) (st : S) (h : ∀ d ∈ f, ∀ xs, g_is_number [d] (st ++ [.lst xs]) = .ok (.bl (decide (Nx d))) (st ++ [.lst xs])) :
    ∃ os, g_is_form [.tup f, .int n] st = .ok (.bl (f.all fun d => decide (Nx d))) (st ++ os) := by
  have e := fLc_map (own := [2]) (fi := fSeq (fVar 0)) (g := tgN 2) (fe := fCall g_is_number (fCons (fVar 2) (fNil))) (ρ := [some (.tup f), some (.int n), none]) (st := st) (st1 := st) (ds := f) (chk := fun _ => true) (F := fun d => .bl (decide (Nx d)))
    rfl (short (by omega)) (fun _ => rfl) (fun d hd xs => ⟨_, rfl, call_ok (cons_ok (v_ok rfl) nil_ok) (h d hd xs)⟩)
  have ga := gAll_loc (lstAt_lst (app_new (st := st) (o := .lst (f.map fun d => .bl (decide (Nx d)))))) (bols_map (fun d => decide (Nx d)) f)
  have hl' : ((f.length : Nat) : Int) = (n : Int) + 1 := by omega
  refine ⟨[.lst (f.map fun d => .bl (decide (Nx d)))], den_end rfl (seq_nx (ρ1 := [some (.tup f), some (.int n), none]) (st1 := st) ?_ (ret_ok (args_ok (cons_ok e nil_ok) ?_)))⟩
  · simp [gIsi, isiT, tyD, hl']
  · rw [ga]
    congr 3
    simp
theorem is_form_good {w : Nat} {f : List D} (h : Fm w f) (hw : w ≤ 100) (st : S) : ∃ os, g_is_form [.tup f, .int w] st = .ok (.bl true) (st ++ os) := by
  obtain ⟨os, e⟩ := is_form_any h.len hw st (fun d hd xs => by rw [decide_eq_true (h.nm d hd).x]; exact isnum (h.nm d hd).x _)
  have : (f.all fun d => decide (Nx d)) = true := List.all_eq_true.mpr fun d hd => decide_eq_true (h.nm d hd).x
  rw [this] at e
  exact ⟨os, e⟩
theorem is_form_len {f : List D} {n : Int} (hn : (f.length : Int) ≠ n + 1) (st : S) : g_is_form [.tup f, .int n] st = .ok (.bl false) st := by
  simp [g_is_form, arN, den_ap, m_is_form, gIsi, isiT, tyD, hn]
theorem is_form_not {d : D} {n : Int} {st : S} (h : gIsi "tuple" d st = some (.bl false, st)) : g_is_form [d, .int n] st = .ok (.bl false) st := by
  simp [g_is_form, arN, den_ap, m_is_form, h]
theorem is_form_bad {w : Nat} {f pre post : List D} {t : D} {st : S} (hf : f = pre ++ [t] ++ post) (hpre : ∀ d ∈ pre, Nm d) (hpost : ∀ d ∈ post, Nm d) (hl : f.length = w + 1) (hw : w ≤ 100)
    (ht : ∀ xs, g_is_number [t] (st ++ [.lst xs]) = .ok (.bl false) (st ++ [.lst xs])) : ∃ os, g_is_form [.tup f, .int w] st = .ok (.bl false) (st ++ os) := by
  have nt : ¬ Nx t := fun h => by
    have z := isnum h (st ++ [.lst []])
    rw [ht []] at z
    injection z with z1
    injection z1 with z2
    cases z2
  obtain ⟨os, e⟩ := is_form_any hl hw st (fun d hd xs => by
    rw [hf] at hd
    rcases List.mem_append.mp hd with hd | hd
    · rcases List.mem_append.mp hd with hd | hd
      · rw [decide_eq_true (hpre d hd).x]; exact isnum (hpre d hd).x _
      · rw [List.mem_singleton.mp hd, decide_eq_false nt]; exact ht xs
    · rw [decide_eq_true (hpost d hd).x]; exact isnum (hpost d hd).x _)
  have : (f.all fun d => decide (Nx d)) = false := by
    rw [hf, List.all_append, List.all_append]
    simp [nt]
  rw [this] at e
  exact ⟨os, e⟩
/-! ### flat -/
def isZ : D → Bool
  | .tup [.int p, .int q] => decide (p = 0 ∧ q = 1)
  | _ => false
theorem gEq_fr (p q r s : Int) (st : S) : gEq (fr p q) (fr r s) st = some (.bl (decide (p = r ∧ q = s)), st) := by
  unfold gEq eqB
  simp [pdD, pdV, pdVs, PySem.SeqAt.shaped, PyData.eqv]
  refine ⟨⟨⟨by first | rfl | simp [PyData.canLay0, PyData.canLay0All], by first | decide | (simp [PyData.depth, PyData.depthAll]; done) | exact Nat.le_of_ble_eq_true rfl⟩, by first | rfl | simp [PyData.canLay0], by first | decide | exact Nat.le_of_ble_eq_true rfl⟩, ?_⟩
  first | rfl | (simp [PyData.eqvAll, PyData.eqv]; done) | (simp [PyData.eqvAll, PyData.eqv]; rfl)
theorem isz_eq {p q : Int} (h : gi p q = 1) (hq : 0 < q) : decide (p = 0 ∧ q = 1) = decide (p = 0) := by
  by_cases c : p = 0
  · have : q = 1 := by
      subst c
      have z := gi_zero hq
      omega
    simp [c, this]
  · simp [c]
theorem is_flat_ok {a : D} {f : List D} (hf : ∀ d ∈ f, Nx d) (hl : f.length ≤ 100) (st : S) : ∃ os, g_is_flat [.tup (a :: f)] st = .ok (.bl (f.all isZ)) (st ++ os) := by
  have e := fLc_map (own := [1]) (fi := fSeq (fSl gSl (fVar 0) (fPart (fC (.int 1))) (fNo))) (g := tgN 1) (fe := fBin gEq (fVar 1) (fC c_ZERO)) (ρ := [some (.tup (a :: f)), none]) (st := st) (st1 := st) (ds := f) (chk := fun _ => true) (F := fun d => .bl (isZ d))
    (by simp [cut_tl]) (short (by omega)) (fun _ => rfl) (fun d hd xs => by
      obtain ⟨p, q, rfl, hq, hr⟩ := hf d hd
      exact ⟨_, rfl, bin_ok (v_ok rfl) c_ok (gEq_fr p q 0 1 _)⟩)
  have ga := gAll_loc (lstAt_lst (app_new (st := st) (o := .lst (f.map fun d => .bl (isZ d))))) (bols_map isZ f)
  refine ⟨[.lst (f.map fun d => .bl (isZ d))], den_end rfl (ret_ok (args_ok (cons_ok e nil_ok) ?_))⟩
  rw [ga]
  congr 3
  simp
noncomputable abbrev flB : FS := sIf (fIsB (fBin gNe (fBin gIx (fVar 1) (fC (.int 0))) (fC (.int 0)))) (sRet (fC (.bl false))) (sSkip)
theorem flat_loop (F : D) (st : S) : ∀ (ds : List D) (x : Option D), (∀ d ∈ ds, Nx d) → (ds.all isZ = false ∧ sLoop (fun _ => true) (tgN 1) flB ds [some F, x] st = .rt (.bl false) st) ∨ (ds.all isZ = true ∧ ∃ y, sLoop (fun _ => true) (tgN 1) flB ds [some F, x] st = .nx [some F, y] st)
  | [], x, _ => .inr ⟨rfl, x, rfl⟩
  | d :: ds, x, h => by
    obtain ⟨p, q, rfl, hq, hr⟩ := h d List.mem_cons_self
    have iz : isZ (fr p q) = decide (p = 0) := isz_eq hr hq
    by_cases c : p = 0
    · have b1 : flB [some F, some (fr p q)] st = .nx [some F, some (fr p q)] st := by simp [c]
      have un : sLoop (fun _ => true) (tgN 1) flB (fr p q :: ds) [some F, x] st = sLoop (fun _ => true) (tgN 1) flB ds [some F, some (fr p q)] st := by
        conv => lhs; unfold sLoop
        rw [if_pos rfl]
        show (match flB [some F, some (fr p q)] st with
          | .nx ρ2 st2 => sLoop (fun _ => true) (tgN 1) flB ds ρ2 st2
          | .ct ρ2 st2 => sLoop (fun _ => true) (tgN 1) flB ds ρ2 st2
          | .bk ρ2 st2 => .nx ρ2 st2
          | .rt d st2 => .rt d st2
          | .ex e ρ2 st2 => .ex e ρ2 st2
          | .bad => .bad) = _
        rw [b1]
      rw [un, List.all_cons, iz, decide_eq_true c, Bool.true_and]
      exact flat_loop F st ds (some (fr p q)) fun d' h' => h d' (List.mem_cons_of_mem _ h')
    · left
      have b1 : flB [some F, some (fr p q)] st = .rt (.bl false) st := by simp [c]
      refine ⟨by rw [List.all_cons, iz, decide_eq_false c]; rfl, ?_⟩
      conv => lhs; unfold sLoop
      rw [if_pos rfl]
      show (match flB [some F, some (fr p q)] st with
        | .nx ρ2 st2 => sLoop (fun _ => true) (tgN 1) flB ds ρ2 st2
        | .ct ρ2 st2 => sLoop (fun _ => true) (tgN 1) flB ds ρ2 st2
        | .bk ρ2 st2 => .nx ρ2 st2
        | .rt d st2 => .rt d st2
        | .ex e ρ2 st2 => .ex e ρ2 st2
        | .bad => .bad) = _
      rw [b1]
theorem law_flat_ok {a : D} {f : List D} (hf : ∀ d ∈ f, Nx d) (st : S) : g__law_flat [.tup (a :: f)] st = .ok (.bl (f.all isZ)) st := by
  have ef : (fSl gSl (fVar 0) (fPart (fC (.int 1))) (fNo)) [some (.tup (a :: f)), none] st = .ok (.tup f) st := by simp [cut_tl]
  rcases flat_loop (.tup (a :: f)) st f none hf with ⟨h, e⟩ | ⟨h, y, e⟩
  · rw [h]
    refine den_end rfl (show sSeq (sFor _ (tgN 1) flB) (sRet (fC (.bl true))) [some (.tup (a :: f)), none] st = _ from ?_)
    rw [sSeq_ap, sFor_tup ef, e]
    rfl
  · rw [h]
    refine den_end rfl (seq_nx (show (sFor _ (tgN 1) flB) [some (.tup (a :: f)), none] st = .nx [some (.tup (a :: f)), y] st from ?_) (ret_ok c_ok))
    rw [sFor_tup ef, e]
/-! ### what is no number -/
variable {st : S} {p q : Int}
theorem no1 {f : Int} (hr : gi p q = 1) (hf : 2 ≤ f) : g_is_number [fr (p * f) (q * f)] st = .ok (.bl false) st := by
  have e : gi (p * f) (q * f) = f := by
    rw [Int.mul_comm p f, Int.mul_comm q f, gi_mul (by omega), hr, Int.mul_one]
  have h1 : ¬ f = 1 := by omega
  rw [is_number_ok, e, decide_eq_false h1, Bool.and_false]
theorem no2 (h : ¬ 1 ≤ q) : g_is_number [fr p q] st = .ok (.bl false) st := by
  rw [is_number_ok, decide_eq_false h]
  rfl
theorem no3 {n : Nat} {xs : List D} (h : lstAt st n = some xs) : g_is_number [.loc n] st = .ok (.bl false) st := by
  simp [g_is_number, arN, den_ap, m_is_number, gIsi, isiT, h]
theorem no4 {xs : List D} (h : xs.length ≠ 2) : g_is_number [.tup xs] st = .ok (.bl false) st := by
  have h2 : ¬ ((xs.length : Nat) : Int) = 2 := by omega
  simp [g_is_number, arN, den_ap, m_is_number, gIsi, isiT, tyD, h2]
theorem no5 : g_is_number [.int p] st = .ok (.bl false) st := by simp [g_is_number, arN, den_ap, m_is_number, gIsi, isiT, tyD]
theorem no6 : g_is_number [.non] st = .ok (.bl false) st := by simp [g_is_number, arN, den_ap, m_is_number, gIsi, isiT, tyD]
theorem no8 (b : Bool) (d : D) : g_is_number [.tup [.bl b, d]] st = .ok (.bl false) st := by
  simp [g_is_number, arN, den_ap, m_is_number, gIsi, isiT, tyD, tgTup, tgAll, g__is_integer, m__is_integer]
end K03

set_option Elab.async false
set_option linter.all false
set_option maxRecDepth 100000
set_option maxHeartbeats 4000000
namespace K03
open PySem MP

noncomputable abbrev k2B : FS := sIf (fAnd (fIsB (fBin gGe (fVar 3) (fC (.int 0)))) (fNot (fTru (fCall g__law_truth_is (fCons (fCall g_is_form (fCons (fVar 1) (fCons (fVar 3) (fNil)))) (fCons (fC (.bl false)) (fNil))))))) (sRet (fC (.bl false))) (sSkip)
noncomputable abbrev k7B : FS := sIf (fNot (fTru (fCall g__law_truth_is (fCons (fCall g_is_form (fCons (fBin gAdd (fBin gAdd (fSl gSl (fVar 1) (fNo) (fPart (fVar 4))) (fTup (fCons (fVar 8) (fNil)))) (fSl gSl (fVar 1) (fPart (fBin gAdd (fVar 4) (fC (.int 1)))) (fNo))) (fCons (fVar 2) (fNil)))) (fCons (fC (.bl false)) (fNil)))))) (sRet (fC (.bl false))) (sSkip)
noncomputable abbrev k8B : FS := sIf (fNot (fTru (fCall g__law_truth_is (fCons (fCall g_is_form (fCons (fVar 8) (fCons (fVar 2) (fNil)))) (fCons (fC (.bl false)) (fNil)))))) (sRet (fC (.bl false))) (sSkip)
abbrev kE (b : Nat) (f : List D) (w : Nat) (o at_ fa a str th : Option D) : En := [some (.loc b), some (.tup f), some (.int w), o, at_, fa, a, str, th]
theorem k2_step {b w : Nat} {f : List D} {v : Int} {x1 x2 x3 x4 x5 : Option D} (hl : f.length = w + 1) (hv : v ≠ w) (s : S) : k2B (kE b f w (some (.int v)) x1 x2 x3 x4 x5) s = .nx (kE b f w (some (.int v)) x1 x2 x3 x4 x5) s := by
  have e1 := is_form_len (f := f) (n := v) (by omega) s
  have e2 := truth_ok false s
  by_cases h : 0 ≤ v
  · exact if_f (and_t (v := false) (isb_ok (v := true) (bin_ok (v_ok rfl) c_ok (by rw [gGe_int, decide_eq_true h]))) (not_ok (v := true) (tru_ok (call_ok (cons_ok (call_ok (cons_ok (v_ok rfl) (cons_ok (v_ok rfl) nil_ok)) e1) (cons_ok c_ok nil_ok)) e2)))) rfl
  · exact if_f (and_f (isb_ok (v := false) (bin_ok (v_ok rfl) c_ok (by rw [gGe_int, decide_eq_false h])))) rfl
theorem k2_loop {b w : Nat} {f : List D} (hl : f.length = w + 1) (s : S) :
    ∃ o, sFor (fLst (fCons (fBin gAdd (fVar 2) (fC (.int 1))) (fCons (fBin gAdd (fVar 2) (fC (.int 2))) (fCons (fBin gSub (fVar 2) (fC (.int 1))) (fNil))))) (tgN 3) k2B (kE b f w none none none none none none) s = .nx (kE b f w o none none none none none) (s ++ [.lst [.int (w + 1), .int (w + 2), .int (w - 1)]]) := by
  have ef : (fLst (fCons (fBin gAdd (fVar 2) (fC (.int 1))) (fCons (fBin gAdd (fVar 2) (fC (.int 2))) (fCons (fBin gSub (fVar 2) (fC (.int 1))) (fNil))))) (kE b f w none none none none none none) s = .ok (.loc s.length) (s ++ [.lst [.int (w + 1), .int (w + 2), .int (w - 1)]]) := by simp
  rw [sFor_loc ef (lstAt_lst app_new)]
  exact loop_keep (i := 3) (body := k2B) (ρ0 := kE b f w none none none none none none) (decide_eq_true (lstAt_lst app_new)) _ none (fun d hd => by
    simp only [List.mem_cons, List.not_mem_nil, or_false] at hd
    rcases hd with e | e | e <;> rw [e] <;> exact k2_step hl (by omega) _)
theorem k7_step {b w at_ : Nat} {f : List D} {t : D} {x0 x2 x3 x4 : Option D} (h : Fm w f) (hw : w ≤ 100) (ha : at_ < w + 1) (s : S) (ht : ∀ xs, g_is_number [t] (s ++ [.lst xs]) = .ok (.bl false) (s ++ [.lst xs])) :
    ∃ os, k7B (kE b f w x0 (some (.int at_)) x2 x3 x4 (some t)) s = .nx (kE b f w x0 (some (.int at_)) x2 x3 x4 (some t)) (s ++ os) := by
  have fl := h.len
  have hpre : ∀ d ∈ f.take at_, Nm d := fun d hd => h.nm d (List.mem_of_mem_take hd)
  have hpost : ∀ d ∈ f.drop (at_ + 1), Nm d := fun d hd => h.nm d (List.mem_of_mem_drop hd)
  obtain ⟨os, e1⟩ := is_form_bad (w := w) (f := f.take at_ ++ [t] ++ f.drop (at_ + 1)) rfl hpre hpost (by simp; omega) hw ht
  have e2 := truth_ok false (s ++ os)
  have hz := sizeLine_eq
  refine ⟨os, ifn_ok (call_ok (cons_ok (call_ok (cons_ok (d := .tup (f.take at_ ++ [t] ++ f.drop (at_ + 1))) (st1 := s) ?_ (cons_ok (v_ok rfl) nil_ok)) e1) (cons_ok c_ok nil_ok)) e2)⟩
  refine bin_ok (x := .tup (f.take at_ ++ [t])) (y := .tup (f.drop (at_ + 1))) (st1 := s) (st2 := s) (bin_ok (x := .tup (f.take at_)) (y := .tup [t]) (st1 := s) (st2 := s) ?_ (tup_ok (cons_ok (v_ok rfl) nil_ok)) ?_) ?_ ?_
  · simp [cut_take]
  · rw [gAdd_tup, if_pos (by simp; omega)]
  · have := cut_drop (xs := f) (k := at_ + 1)
    simp
    exact this
  · rw [gAdd_tup, if_pos (by simp; omega)]
theorem k8_step {b w : Nat} {f : List D} {t : D} {x0 x1 x2 x3 x4 : Option D} (s : S) (ht : ∃ os, g_is_form [t, .int w] s = .ok (.bl false) (s ++ os)) :
    ∃ os, k8B (kE b f w x0 x1 x2 x3 x4 (some t)) s = .nx (kE b f w x0 x1 x2 x3 x4 (some t)) (s ++ os) := by
  obtain ⟨os, e1⟩ := ht
  exact ⟨os, ifn_ok (call_ok (cons_ok (call_ok (cons_ok (v_ok rfl) (cons_ok (v_ok rfl) nil_ok)) e1) (cons_ok c_ok nil_ok)) (truth_ok false _))⟩
abbrev L7 (p q F : Int) (n : Nat) : List D := [fr (p * F) (q * F), fr p (-q), fr p 0, .int p, .loc n]
abbrev L7' (p q : Int) : List D := [.tup [.bl true, .int q], .non, .tup [fr p q]]
theorem k7_loop {b w at_ : Nat} {f : List D} {p q F : Int} {x0 : Option D} (h : Fm w f) (hw : w ≤ 100) (ha : at_ < w + 1) (N : Nu p q) (hF : 2 ≤ F) (s : S) {n m : Nat} (hn : lstAt s n = some [.int p, .int q]) (hm : s[m]? = some (.lst (L7 p q F n))) :
    ∃ th os, sFor (fBin gAdd (fVar 7) (fLst (fCons (fTup (fCons (fC (.bl true)) (fCons (fBin gIx (fVar 6) (fC (.int 1))) (fNil)))) (fCons (fC .non) (fCons (fTup (fCons (fVar 6) (fNil))) (fNil)))))) (tgN 8) k7B (kE b f w x0 (some (.int at_)) (some (.int F)) (some (fr p q)) (some (.loc m)) none) s = .nx (kE b f w x0 (some (.int at_)) (some (.int F)) (some (fr p q)) (some (.loc m)) th) (s ++ os) := by
  have hz := sizeLine_eq
  have ga := gAdd_loc (st := s ++ [.lst (L7' p q)]) (m := m) (n := s.length) (app_old hm) app_new (by simp; omega)
  have ef : (fBin gAdd (fVar 7) (fLst (fCons (fTup (fCons (fC (.bl true)) (fCons (fBin gIx (fVar 6) (fC (.int 1))) (fNil)))) (fCons (fC .non) (fCons (fTup (fCons (fVar 6) (fNil))) (fNil)))))) (kE b f w x0 (some (.int at_)) (some (.int F)) (some (fr p q)) (some (.loc m)) none) s = .ok (.loc (s ++ [Ob.lst (L7' p q)]).length) (s ++ [.lst (L7' p q)] ++ [.lst (L7 p q F n ++ L7' p q)]) :=
    bin_ok (v_ok rfl) (lst_ok (cons_ok (tup_ok (cons_ok c_ok (cons_ok (bin_ok (v_ok rfl) c_ok rfl) nil_ok))) (cons_ok c_ok (cons_ok (tup_ok (cons_ok (v_ok rfl) nil_ok)) nil_ok)))) ga
  rw [sFor_loc ef (lstAt_lst app_new)]
  obtain ⟨th, os, e⟩ := loop_app (i := 8) (body := k7B) (ρ0 := kE b f w x0 (some (.int at_)) (some (.int F)) (some (fr p q)) (some (.loc m)) none) (chk := fun s' => decide (lstAt s' (s ++ [Ob.lst (L7' p q)]).length = some (L7 p q F n ++ L7' p q))) (L7 p q F n ++ L7' p q) (s ++ [.lst (L7' p q)] ++ [.lst (L7 p q F n ++ L7' p q)]) none
    (fun os => decide_eq_true (lst_app _ (lstAt_lst app_new))) (fun d hd os => by
      have st := k7_step (b := b) (x0 := x0) (x2 := some (.int F)) (x3 := some (fr p q)) (x4 := some (.loc m)) (t := d) h hw ha (s ++ [.lst (L7' p q)] ++ [.lst (L7 p q F n ++ L7' p q)] ++ os) (fun xs => by
        have ln : lstAt (s ++ [.lst (L7' p q)] ++ [.lst (L7 p q F n ++ L7' p q)] ++ os ++ [.lst xs]) n = some [.int p, .int q] := lst_app _ (lst_app _ (lst_app _ (lst_app _ hn)))
        generalize s ++ [Ob.lst (L7' p q)] ++ [.lst (L7 p q F n ++ L7' p q)] ++ os ++ [.lst xs] = s9 at ln ⊢
        simp only [L7, L7', List.cons_append, List.nil_append, List.mem_cons, List.not_mem_nil, or_false] at hd
        rcases hd with e | e | e | e | e | e | e | e <;> rw [e]
        · exact no1 N.red hF
        · exact no2 (by have := N.pos; omega)
        · exact no2 (by omega)
        · exact no5
        · exact no3 ln
        · exact no8 _ _
        · exact no6
        · exact no4 (by simp))
      exact st)
  refine ⟨th, [.lst (L7' p q)] ++ ([.lst (L7 p q F n ++ L7' p q)] ++ os), ?_⟩
  rw [← List.append_assoc, ← List.append_assoc]
  exact e
abbrev L8 (f : List D) (p q : Int) (w n : Nat) : List D := [.loc n, .tup (f ++ [fr 0 1]), .tup (cutD f none (some (-1))), .tup [], fr p q, .non, .int w]
theorem cut_last_len (f : List D) (w : Nat) (h : f.length = w + 1) : (cutD f none (some (-1))).length = w := by
  unfold cutD
  rw [HT.sIx_none, List.drop_zero]
  show (f.take ((if (-1 : Int) < 0 then ((-1 : Int) + (f.length : Int)).toNat else min (-1 : Int).toNat f.length) - 0)).length = w
  rw [if_pos (by decide), List.length_take]
  omega
theorem not_nx_int (i : Int) : ¬ Nx (.int i) := fun ⟨_, _, e, _, _⟩ => by cases e
theorem k8_loop {b w : Nat} {f : List D} {p q : Int} {x0 x1 x2 x4 x5 : Option D} (h : Fm w f) (hw : w ≤ 100) (s : S) :
    ∃ th os, sFor (fLst (fCons (fArgs gList (fCons (fVar 1) (fNil))) (fCons (fBin gAdd (fVar 1) (fTup (fCons (fTup (fCons (fC (.int 0)) (fCons (fC (.int 1)) (fNil)))) (fNil)))) (fCons (fSl gSl (fVar 1) (fNo) (fPart (fUn gNeg (fC (.int 1))))) (fCons (fTup (fNil)) (fCons (fVar 6) (fCons (fC .non) (fCons (fVar 2) (fNil))))))))) (tgN 8) k8B (kE b f w x0 x1 x2 (some (fr p q)) x4 x5) s = .nx (kE b f w x0 x1 x2 (some (fr p q)) x4 th) (s ++ os) := by
  have hz := sizeLine_eq
  have fl := h.len
  have cl := cut_last_len f w fl
  have ef : (fLst (fCons (fArgs gList (fCons (fVar 1) (fNil))) (fCons (fBin gAdd (fVar 1) (fTup (fCons (fTup (fCons (fC (.int 0)) (fCons (fC (.int 1)) (fNil)))) (fNil)))) (fCons (fSl gSl (fVar 1) (fNo) (fPart (fUn gNeg (fC (.int 1))))) (fCons (fTup (fNil)) (fCons (fVar 6) (fCons (fC .non) (fCons (fVar 2) (fNil))))))))) (kE b f w x0 x1 x2 (some (fr p q)) x4 x5) s = .ok (.loc (s ++ [Ob.lst f]).length) (s ++ [.lst f] ++ [.lst (L8 f p q w s.length)]) := by
    refine lst_ok (cons_ok (args_ok (cons_ok (v_ok rfl) nil_ok) (gList_tup s f)) (cons_ok (bin_ok (v_ok rfl) (tup_ok (cons_ok (tup_ok (cons_ok c_ok (cons_ok c_ok nil_ok))) nil_ok)) (by rw [gAdd_tup, if_pos (by simp; omega)])) (cons_ok ?_ (cons_ok (tup_ok nil_ok) (cons_ok (v_ok rfl) (cons_ok c_ok (cons_ok (v_ok rfl) nil_ok)))))))
    simp
  rw [sFor_loc ef (lstAt_lst app_new)]
  obtain ⟨th, os, e⟩ := loop_app (i := 8) (body := k8B) (ρ0 := kE b f w x0 x1 x2 (some (fr p q)) x4 none) (chk := fun s' => decide (lstAt s' (s ++ [Ob.lst f]).length = some (L8 f p q w s.length))) (L8 f p q w s.length) (s ++ [.lst f] ++ [.lst (L8 f p q w s.length)]) x5
    (fun os => decide_eq_true (lst_app _ (lstAt_lst app_new))) (fun d hd os => by
      refine k8_step _ ?_
      have ln : lstAt (s ++ [.lst f] ++ [.lst (L8 f p q w s.length)] ++ os) s.length = some f := lst_app _ (lst_app _ (lstAt_lst app_new))
      generalize s ++ [Ob.lst f] ++ [.lst (L8 f p q w s.length)] ++ os = s9 at ln ⊢
      have z : ∀ {d : D}, g_is_form [d, .int w] s9 = .ok (.bl false) s9 → ∃ os, g_is_form [d, .int w] s9 = .ok (.bl false) (s9 ++ os) := fun h => ⟨[], by rw [List.append_nil]; exact h⟩
      simp only [L8, List.mem_cons, List.not_mem_nil, or_false] at hd
      rcases hd with e | e | e | e | e | e | e <;> rw [e]
      · exact z (is_form_not (by simp [gIsi, isiT, ln]))
      · exact z (is_form_len (by simp; omega) _)
      · exact z (is_form_len (by rw [cl]; omega) _)
      · exact z (is_form_len (by simp; omega) _)
      · by_cases c : w = 1
        · obtain ⟨os, e⟩ := is_form_any (f := [.int p, .int q]) (n := w) (by simp [c]) hw s9 (fun d hd xs => by
            simp only [List.mem_cons, List.not_mem_nil, or_false] at hd
            rcases hd with e | e <;> rw [e, decide_eq_false (not_nx_int _)] <;> exact no5)
          refine ⟨os, ?_⟩
          rw [show ([D.int p, D.int q].all fun d => decide (Nx d)) = false by simp [not_nx_int]] at e
          exact e
        · exact z (is_form_len (by simp; omega) _)
      · exact z (is_form_not (by simp [gIsi, isiT, tyD]))
      · exact z (is_form_not (by simp [gIsi, isiT, tyD])))
  refine ⟨th, [.lst f] ++ ([.lst (L8 f p q w s.length)] ++ os), ?_⟩
  rw [← List.append_assoc, ← List.append_assoc]
  exact e
theorem kind_right_ok {st : S} {b w : Nat} {f : List D} (hb : Bag st b) (h : Fm w f) (hw : w ≤ 100) : ∃ s', g__law_kind_right [.loc b, .tup f, .int w] st = .ok (.bl true) s' ∧ Ext b st s' := by
  have fl := h.len
  obtain ⟨o1, e1⟩ := is_form_good h hw st
  cases f with
  | nil => simp at fl
  | cons a0 f0 =>
    have hx : ∀ d ∈ f0, Nx d := fun d hd => (h.nm d (List.mem_cons_of_mem _ hd)).x
    have hl0 : f0.length ≤ 100 := by simp at fl; omega
    obtain ⟨o2, e3⟩ := is_flat_ok (a := a0) hx hl0 (st ++ o1)
    have e4 := law_flat_ok (a := a0) hx (st ++ o1 ++ o2)
    generalize hf : a0 :: f0 = f at *
    generalize hs2 : st ++ o1 ++ o2 = s2 at e3 e4
    have x2 : Ext b st s2 := by rw [← hs2]; exact ((Ext.refl hb).apps o1).apps o2
    obtain ⟨o, e5⟩ := k2_loop (b := b) fl s2
    generalize hs3 : s2 ++ [Ob.lst [.int (w + 1), .int (w + 2), .int (w - 1)]] = s3 at e5
    have x3 : Ext b st s3 := by rw [← hs3]; exact x2.app _
    obtain ⟨r, s4, e6, r0, r1, x4⟩ := take_ok x3.bag (m := (w : Int) + 1) (by omega) (divok_small (by omega) (by
      have h1 : (1000 : Nat) ≤ 2 ^ 8000 := Nat.le_trans (show 1000 ≤ 2 ^ 10 by decide) (Nat.pow_le_pow_right (by decide) (by decide))
      omega))
    obtain ⟨at_, hr⟩ : ∃ k : Nat, r = (k : Int) := ⟨r.toNat, by omega⟩
    subst hr
    obtain ⟨t, s5, e7, t0, t1, x5⟩ := take_ok x4.bag (m := 8) (by decide) (by decide)
    have hat : at_ < f.length := by omega
    obtain ⟨p, q, ea, N⟩ := h.nm f[at_] (List.getElem_mem _)
    have a1 : L2.atI f (at_ : Int) = some (fr p q) := by rw [← ea]; exact atI_nat (List.getElem?_eq_getElem hat)
    have mf : ∀ z : Int, MP.MulOk z (2 + t) := fun z => mulok_r (by omega) (by omega)
    generalize hs6 : s5 ++ [Ob.lst [.int p, .int q]] = s6
    have hn : lstAt s6 s5.length = some [.int p, .int q] := by rw [← hs6]; exact lstAt_lst app_new
    obtain ⟨th, o7, e9⟩ := k7_loop (b := b) (at_ := at_) (x0 := o) (m := s6.length) h hw (by omega) N (F := 2 + t) (by omega) (s6 ++ [.lst (L7 p q (2 + t) s5.length)]) (lst_app _ hn) app_new
    generalize hs7 : s6 ++ [Ob.lst (L7 p q (2 + t) s5.length)] ++ o7 = s7 at e9
    obtain ⟨th2, o8, e10⟩ := k8_loop (b := b) (p := p) (q := q) (x0 := o) (x1 := some (.int at_)) (x2 := some (.int (2 + t))) (x4 := some (.loc s6.length)) (x5 := th) h hw s7
    have x7 : Ext b st (s7 ++ o8) := by
      rw [← hs7, ← hs6]
      exact (((x3.trans (x4.trans x5)).app _).app _).apps o7 |>.apps o8
    refine ⟨s7 ++ o8, den_end rfl (show m__law_kind_right (kE b f w none none none none none none) st = _ from ?_), x7⟩
    refine seq_nx (ρ1 := kE b f w none none none none none none) (st1 := s2) (ifn2_ok (st1 := st ++ o1) (call_ok (cons_ok (call_ok (cons_ok (v_ok rfl) (cons_ok (v_ok rfl) nil_ok)) e1) (cons_ok c_ok nil_ok)) (truth_ok true _)) (call_ok (cons_ok (call_ok (cons_ok (v_ok rfl) nil_ok) e3) (cons_ok (call_ok (cons_ok (v_ok rfl) nil_ok) e4) nil_ok)) (truth_ok _ _))) ?_
    refine seq_nx e5 ?_
    refine seq_nx (ρ1 := kE b f w o (some (.int at_)) none none none none) (st1 := s4) (set_ok (call_ok (cons_ok (v_ok rfl) (cons_ok (bin_ok (v_ok rfl) c_ok rfl) nil_ok)) e6)) ?_
    refine seq_nx (ρ1 := kE b f w o (some (.int at_)) (some (.int (2 + t))) none none none) (st1 := s5) (set_ok (bin_ok c_ok (call_ok (cons_ok (v_ok rfl) (cons_ok c_ok nil_ok)) e7) rfl)) ?_
    refine seq_nx (ρ1 := kE b f w o (some (.int at_)) (some (.int (2 + t))) (some (fr p q)) none none) (st1 := s5) (set_ok (bin_ok (v_ok rfl) (v_ok rfl) (by rw [gIx_tup, a1]; rfl))) ?_
    refine seq_nx (ρ1 := kE b f w o (some (.int at_)) (some (.int (2 + t))) (some (fr p q)) (some (.loc s6.length)) none) (st1 := s6 ++ [.lst (L7 p q (2 + t) s5.length)]) (set_ok ?_) ?_
    · rw [← hs6]
      refine lst_ok (cons_ok (tup_ok (cons_ok (bin_ok (bin_ok (v_ok rfl) c_ok rfl) (v_ok rfl) (by rw [gMul_int, if_pos (mf _)])) (cons_ok (bin_ok (bin_ok (v_ok rfl) c_ok rfl) (v_ok rfl) (by rw [gMul_int, if_pos (mf _)])) nil_ok))) (cons_ok (tup_ok (cons_ok (bin_ok (v_ok rfl) c_ok rfl) (cons_ok (un_ok (bin_ok (v_ok rfl) c_ok rfl) rfl) nil_ok))) (cons_ok (tup_ok (cons_ok (bin_ok (v_ok rfl) c_ok rfl) (cons_ok c_ok nil_ok))) (cons_ok (bin_ok (v_ok rfl) c_ok rfl) (cons_ok (lst_ok (cons_ok (bin_ok (v_ok rfl) c_ok rfl) (cons_ok (bin_ok (v_ok rfl) c_ok rfl) nil_ok))) nil_ok)))))
    · exact seq_nx e9 (seq_nx e10 (ret_ok c_ok))
end K03

set_option Elab.async false
set_option linter.all false
set_option maxRecDepth 100000
set_option maxHeartbeats 4000000
namespace K03
open PySem MP

abbrev BF : Str := "BadForm"
abbrev BP : Str := "BadPlace"
theorem f1 : tx_FitError.lookup BF = some true := by decide +kernel
theorem f2 : ti_BadNumber.lookup BF = some false := by decide +kernel
theorem f3 : ti_BadText.lookup BF = some false := by decide +kernel
theorem f4 : ti_BadSpan.lookup BF = some false := by decide +kernel
theorem f5 : ti_BadPlace.lookup BF = some false := by decide +kernel
theorem f6 : ti_BadForm.lookup BF = some true := by decide +kernel
theorem f7 : ti_ValueError.lookup BF = some true := by decide +kernel
theorem f8 : BF ∈ cs_form := by decide +kernel
theorem f9 (d : D) : [(("form" : Str), d)].lookup ("form" : Str) = some d := by simp
theorem p1 : tx_BadPlace.lookup BP = some true := by decide +kernel
theorem p2 : ti_BadNumber.lookup BP = some false := by decide +kernel
theorem p3 : ti_BadText.lookup BP = some false := by decide +kernel
theorem p4 : ti_BadSpan.lookup BP = some false := by decide +kernel
theorem p5 : ti_BadForm.lookup BP = some false := by decide +kernel
theorem p6 : ti_FitError.lookup BP = some true := by decide +kernel
theorem p7 : ti_ValueError.lookup BP = some true := by decide +kernel
theorem p8 : BP ∈ cs_place := by decide +kernel
theorem p9 (d : D) : [(("place" : Str), d)].lookup ("place" : Str) = some d := by simp
theorem form_refused_ok {f pt : List D} (hf : ∀ d ∈ f, Nx d) (hlf : f.length ≤ 1000) (hl : (pt.length : Int) ≠ f.length - 1) (st : S) : ∃ os, g__law_form_refused [.tup f, .tup pt] st = .ok (.bl true) (st ++ os) := by
  have e : (sExpr (fCall g_value_at (fCons (fVar 0) (fCons (fVar 1) (fNil))))) [some (.tup f), some (.tup pt), none] st = .ex ⟨BF, st.length⟩ [some (.tup f), some (.tup pt), none] (st ++ [.xd [(("form" : Str), .tup f)]]) := by
    simp [g_value_at, arN, den_ap, m_value_at, hl]
  have hx : (st ++ [Ob.xd [(("form" : Str), .tup f)]] ++ [Ob.nu])[st.length]? = some (.xd [(("form" : Str), .tup f)]) := app_old app_new
  refine ⟨[.xd [(("form" : Str), .tup f)]] ++ [.nu], ?_⟩
  rw [← List.append_assoc]
  unfold g__law_form_refused arN
  rw [if_pos (show [D.tup f, D.tup pt].length = 2 from rfl), den_ap]
  show ((sSeq _ _ [some (.tup f), some (.tup pt), none] st).out) = _
  rw [sSeq_ap, sTryAs_ex e f1]
  have x1 := kIsX_ok (k := (st ++ [Ob.xd [(("form" : Str), .tup f)]]).length) hx f2
  have x2 := kIsX_ok (k := (st ++ [Ob.xd [(("form" : Str), .tup f)]]).length) hx f3
  have x3 := kIsX_ok (k := (st ++ [Ob.xd [(("form" : Str), .tup f)]]).length) hx f4
  have x4 := kIsX_ok (k := (st ++ [Ob.xd [(("form" : Str), .tup f)]]).length) hx f5
  have x5 := kIsX_ok (k := (st ++ [Ob.xd [(("form" : Str), .tup f)]]).length) hx f6
  have x6 := kIsX_ok (k := (st ++ [Ob.xd [(("form" : Str), .tup f)]]).length) hx f7
  have x7 := kXf_ok (k := (st ++ [Ob.xd [(("form" : Str), .tup f)]]).length) hx f8 (f9 _)
  have z := form_is_ok hf hlf (st ++ [Ob.xd [(("form" : Str), .tup f)]] ++ [Ob.nu])
  generalize (st ++ [Ob.xd [(("form" : Str), .tup f)]]).length = k at x1 x2 x3 x4 x5 x6 x7 ⊢
  generalize st ++ [Ob.xd [(("form" : Str), .tup f)]] ++ [Ob.nu] = s2 at x1 x2 x3 x4 x5 x6 x7 z ⊢
  simp [x1, x2, x3, x4, x5, x6, x7, z]
theorem place_refused_ok {at_ w : Int} (h : at_ < 1 ∨ w < at_) (st : S) : ∃ os, g__law_place_refused [.int at_, .int w] st = .ok (.bl true) (st ++ os) := by
  have e : (sExpr (fCall g_parameter (fCons (fVar 0) (fCons (fVar 1) (fNil))))) [some (.int at_), some (.int w), none] st = .ex ⟨BP, st.length⟩ [some (.int at_), some (.int w), none] (st ++ [.xd [(("place" : Str), .int at_)]]) := by
    by_cases h1 : at_ < 1
    · simp [g_parameter, arN, den_ap, m_parameter, h1]
    · have h2 : w < at_ := by omega
      simp [g_parameter, arN, den_ap, m_parameter, h1, h2]
  have hx : (st ++ [Ob.xd [(("place" : Str), .int at_)]] ++ [Ob.nu])[st.length]? = some (.xd [(("place" : Str), .int at_)]) := app_old app_new
  refine ⟨[.xd [(("place" : Str), .int at_)]] ++ [.nu], ?_⟩
  rw [← List.append_assoc]
  unfold g__law_place_refused arN
  rw [if_pos (show [D.int at_, D.int w].length = 2 from rfl), den_ap]
  show ((sSeq _ _ [some (.int at_), some (.int w), none] st).out) = _
  rw [sSeq_ap, sTryAs_ex e p1]
  have x1 := kIsX_ok (k := (st ++ [Ob.xd [(("place" : Str), .int at_)]]).length) hx p2
  have x2 := kIsX_ok (k := (st ++ [Ob.xd [(("place" : Str), .int at_)]]).length) hx p3
  have x3 := kIsX_ok (k := (st ++ [Ob.xd [(("place" : Str), .int at_)]]).length) hx p4
  have x4 := kIsX_ok (k := (st ++ [Ob.xd [(("place" : Str), .int at_)]]).length) hx p5
  have x5 := kIsX_ok (k := (st ++ [Ob.xd [(("place" : Str), .int at_)]]).length) hx p6
  have x6 := kIsX_ok (k := (st ++ [Ob.xd [(("place" : Str), .int at_)]]).length) hx p7
  have x7 := kXf_ok (k := (st ++ [Ob.xd [(("place" : Str), .int at_)]]).length) hx p8 (p9 _)
  generalize (st ++ [Ob.xd [(("place" : Str), .int at_)]]).length = k at x1 x2 x3 x4 x5 x6 x7 ⊢
  generalize st ++ [Ob.xd [(("place" : Str), .int at_)]] ++ [Ob.nu] = s2 at x1 x2 x3 x4 x5 x6 x7 ⊢
  simp [x1, x2, x3, x4, x5, x6, x7, g__law_integer, arN, den_ap, m__law_integer, gIsi, isiT, tyD]
noncomputable abbrev l1B : FS := sIf (fNot (fTru (fCall g__law_form_refused (fCons (fVar 0) (fCons (fBin gAdd (fVar 1) (fBin gMulT (fTup (fCons (fVar 2) (fNil))) (fVar 3))) (fNil)))))) (sRet (fC (.bl false))) (sSkip)
noncomputable abbrev l2B : FS := sIf (fNot (fTru (fCall g__law_form_refused (fCons (fVar 0) (fCons (fSl gSl (fVar 1) (fNo) (fPart (fVar 4))) (fNil)))))) (sRet (fC (.bl false))) (sSkip)
abbrev lE (f pt : List D) (a : D) (m l : Option D) : En := [some (.tup f), some (.tup pt), some a, m, l]
theorem lengths_right_ok {w : Nat} {f pt : List D} {a : D} (hf : Fm w f) (hp : pt.length = w) (hw : w ≤ 100) (st : S) : ∃ os, g__law_lengths_right [.tup f, .tup pt, a] st = .ok (.bl true) (st ++ os) := by
  have fl := hf.len
  have hz := sizeLine_eq
  have fx : ∀ d ∈ f, Nx d := fun d hd => (hf.nm d hd).x
  have ef : (fLst (fCons (fC (.int 1)) (fCons (fC (.int 2)) (fCons (fC (.int 5)) (fNil))))) (lE f pt a none none) st = .ok (.loc st.length) (st ++ [.lst [.int 1, .int 2, .int 5]]) := lst_ok (cons_ok c_ok (cons_ok c_ok (cons_ok c_ok nil_ok)))
  obtain ⟨m, o1, e1⟩ := loop_app (i := 3) (body := l1B) (ρ0 := lE f pt a none none) (chk := fun s => decide (lstAt s st.length = some [.int 1, .int 2, .int 5])) [.int 1, .int 2, .int 5] (st ++ [.lst [.int 1, .int 2, .int 5]]) none
    (fun os => decide_eq_true (lst_app _ (lstAt_lst app_new))) (fun d hd os => by
      generalize st ++ [Ob.lst [.int 1, .int 2, .int 5]] ++ os = s9
      have key : ∀ k : Nat, 0 < k → k ≤ 5 → ∃ os', l1B (lE f pt a (some (.int k)) none) s9 = .nx (lE f pt a (some (.int k)) none) (s9 ++ os') := fun k k0 k5 => by
        obtain ⟨os', e⟩ := form_refused_ok (pt := pt ++ List.replicate k a) fx (by omega) (by simp; omega) s9
        refine ⟨os', ifn_ok (call_ok (cons_ok (v_ok rfl) (cons_ok (bin_ok (v_ok rfl) (bin_ok (tup_ok (cons_ok (v_ok rfl) nil_ok)) (v_ok rfl) (by rw [gMulT_tup, if_pos ⟨by omega, by omega, by simp⟩, Int.toNat_natCast, rep_one])) (by rw [gAdd_tup, if_pos (by simp; omega)])) nil_ok)) e)⟩
      simp only [List.mem_cons, List.not_mem_nil, or_false] at hd
      rcases hd with e | e | e <;> rw [e]
      · exact key 1 (by decide) (by decide)
      · exact key 2 (by decide) (by decide)
      · exact key 5 (by decide) (by decide))
  generalize hs1 : st ++ [Ob.lst [.int 1, .int 2, .int 5]] ++ o1 = s1 at e1
  obtain ⟨l, o2, e2⟩ := loop_app (i := 4) (body := l2B) (ρ0 := lE f pt a m none) (chk := fun _ => true) (rangeD 0 (pt.length : Int)) s1 none
    (fun _ => rfl) (fun d hd os => by
      obtain ⟨k, hk, rfl⟩ := mem_rng hd
      obtain ⟨os', e⟩ := form_refused_ok (pt := pt.take k) fx (by omega) (by simp; omega) (s1 ++ os)
      exact ⟨os', ifn_ok (call_ok (cons_ok (v_ok rfl) (cons_ok (d := .tup (pt.take k)) (st1 := s1 ++ os) (by simp [cut_take]) nil_ok)) e)⟩)
  refine ⟨[.lst [.int 1, .int 2, .int 5]] ++ o1 ++ o2, ?_⟩
  rw [← List.append_assoc, ← List.append_assoc, hs1]
  refine den_end rfl (show m__law_lengths_right (lE f pt a none none) st = _ from seq_nx (ρ1 := lE f pt a m none) (st1 := s1) ?_ (seq_nx (ρ1 := lE f pt a m l) (st1 := s1 ++ o2) ?_ (ret_ok c_ok)))
  · rw [sFor_loc ef (lstAt_lst app_new)]
    exact e1
  · rw [sForR1_ok (j := (pt.length : Int)) (st1 := s1) (cons_ok (args_ok (cons_ok (v_ok rfl) nil_ok) rfl) nil_ok) (small_nat (by omega))]
    exact e2
/-! ### flat forms and parameters -/
abbrev zs (k : Nat) : List D := List.replicate k (fr 0 1)
theorem zs_mul (k : Nat) (hk : k ≤ 1000) (st : S) : gMulT (.tup [fr 0 1]) (.int k) st = some (.tup (zs k), st) := by
  rw [gMulT_tup, if_pos ⟨by omega, by omega, by simp⟩, Int.toNat_natCast, rep_one]
theorem mem_zs {k : Nat} {d : D} (h : d ∈ zs k) : Nm d := by
  rw [List.eq_of_mem_replicate h]
  exact nm_01
theorem fm_flat {a : D} {w : Nat} (ha : Nm a) : Fm w (a :: zs w) := ⟨by simp, fun d hd => by
  rcases List.mem_cons.mp hd with e | e
  · rw [e]; exact ha
  · exact mem_zs e⟩
abbrev par (k w : Nat) : List D := zs (k + 1) ++ [fr 1 1] ++ zs (w - k - 1)
theorem fm_par {k w : Nat} (hk : k < w) : Fm w (par k w) := ⟨by simp; omega, fun d hd => by
  rcases List.mem_append.mp hd with hd | hd
  · rcases List.mem_append.mp hd with hd | hd
    · exact mem_zs hd
    · rw [List.mem_singleton.mp hd]; exact nm_11
  · exact mem_zs hd⟩
theorem flat_ok {a : D} {w : Nat} (hw : w ≤ 1000) (st : S) : g_flat [a, .int w] st = .ok (.tup (a :: zs w)) st := by
  have hz := sizeLine_eq
  exact den_end rfl (ret_ok (bin_ok (tup_ok (cons_ok (v_ok rfl) nil_ok)) (bin_ok (tup_ok (cons_ok c_ok nil_ok)) (v_ok rfl) (zs_mul w hw st)) (by rw [gAdd_tup, if_pos (by simp; omega)]; rfl)))
theorem flat_k_ok {a : D} {w : Nat} (hw : w ≤ 1000) (st : S) : g_flat_ksize_number_0 [.int w, a] st = .ok (.tup (a :: zs w)) st := flat_ok hw st
theorem parameter_ok {k w : Nat} (hk : k < w) (hw : w ≤ 1000) (st : S) : g_parameter [.int (k + 1), .int w] st = .ok (.tup (par k w)) st := by
  have hz := sizeLine_eq
  have z1 := zs_mul (k + 1) (by omega) st
  have z2 := zs_mul (w - k - 1) (by omega) st
  rw [show (((w - k - 1 : Nat)) : Int) = (w : Int) - ((k : Int) + 1) by omega] at z2
  have h1 : ¬ ((k : Int) + 1 < 1) := by omega
  have h2 : ¬ ((w : Int) < (k : Int) + 1) := by omega
  refine den_end rfl (seq_nx (ρ1 := [some (.int (k + 1)), some (.int w)]) (st1 := st) (by simp [h1, h2]) (ret_ok (bin_ok (x := .tup (zs (k + 1) ++ [fr 1 1])) (bin_ok (bin_ok (tup_ok (cons_ok c_ok nil_ok)) (v_ok rfl) z1) (tup_ok (cons_ok c_ok nil_ok)) (by rw [gAdd_tup, if_pos (by simp; omega)])) (bin_ok (tup_ok (cons_ok c_ok nil_ok)) (bin_ok (v_ok rfl) (v_ok rfl) rfl) z2) (by rw [gAdd_tup, if_pos (by simp; omega)]))))
theorem parameter_k_ok {k w : Nat} (hk : k < w) (hw : w ≤ 1000) (st : S) : g_parameter_ksize_index_0 [.int w, .int (k + 1)] st = .ok (.tup (par k w)) st := parameter_ok hk hw st
theorem isz_01 : isZ (fr 0 1) = true := rfl
theorem isz_11 : isZ (fr 1 1) = false := rfl
theorem zs_all (k : Nat) : (zs k).all isZ = true := List.all_eq_true.mpr fun d hd => by rw [List.eq_of_mem_replicate hd]; exact isz_01
theorem par_flat {k w : Nat} (hk : k < w) (hw : w ≤ 99) (st : S) : ∃ os, g_is_flat [.tup (par k w)] st = .ok (.bl false) (st ++ os) := by
  have e : par k w = fr 0 1 :: (zs k ++ [fr 1 1] ++ zs (w - k - 1)) := by
    show List.replicate (k + 1) (fr 0 1) ++ [fr 1 1] ++ zs (w - k - 1) = _
    rw [List.replicate_succ]
    rfl
  have fm := fm_par hk
  rw [e] at fm
  obtain ⟨os, h⟩ := is_flat_ok (a := fr 0 1) (f := zs k ++ [fr 1 1] ++ zs (w - k - 1)) (fun d hd => (fm.nm d (List.mem_cons_of_mem _ hd)).x) (by simp; omega) st
  rw [show (zs k ++ [fr 1 1] ++ zs (w - k - 1)).all isZ = false by
    rw [List.all_append, List.all_append, List.all_cons, isz_11]
    simp] at h
  rw [e]
  exact ⟨os, h⟩
noncomputable abbrev p5B : FS := sSeq (sSet 3 (fBin gAdd (fBin gAdd (fBin gMulT (fTup (fCons (fTup (fCons (fC (.int 0)) (fCons (fC (.int 1)) (fNil)))) (fNil))) (fBin gAdd (fVar 4) (fC (.int 1)))) (fTup (fCons (fTup (fCons (fC (.int 1)) (fCons (fC (.int 1)) (fNil)))) (fNil)))) (fBin gMulT (fTup (fCons (fTup (fCons (fC (.int 0)) (fCons (fC (.int 1)) (fNil)))) (fNil))) (fBin gSub (fBin gSub (fVar 2) (fVar 4)) (fC (.int 1)))))) (sSeq (sIf (fNot (fTru (fCall g__law_agrees (fCons (fCall g_parameter (fCons (fBin gAdd (fVar 4) (fC (.int 1))) (fCons (fVar 2) (fNil)))) (fCons (fVar 3) (fCons (fVar 1) (fNil))))))) (sRet (fC (.bl false))) (sSkip)) (sSeq (sIf (fNot (fTru (fCall g__law_form_is (fCons (fCall g_parameter_ksize_index_0 (fCons (fVar 2) (fCons (fBin gAdd (fVar 4) (fC (.int 1))) (fNil)))) (fCons (fVar 3) (fNil)))))) (sRet (fC (.bl false))) (sSkip)) (sIf (fNot (fTru (fCall g__law_truth_is (fCons (fCall g_is_flat (fCons (fVar 3) (fNil))) (fCons (fC (.bl false)) (fNil)))))) (sRet (fC (.bl false))) (sSkip))))
noncomputable abbrev p6B : FS := sIf (fNot (fTru (fCall g__law_place_refused (fCons (fVar 5) (fCons (fVar 2) (fNil)))))) (sRet (fC (.bl false))) (sSkip)
abbrev pE (a : D) (pt : List D) (w due k at_ : Option D) : En := [some a, some (.tup pt), w, due, k, at_]
theorem plain_right_ok {w : Nat} {pt : List D} {a : D} (ha : Nm a) (hp : ∀ d ∈ pt, Nm d) (hl : pt.length = w) (hw : w ≤ 6) (st : S) : ∃ os, g__law_plain_right [a, .tup pt] st = .ok (.bl true) (st ++ os) := by
  have hz := sizeLine_eq
  have ff := fm_flat (w := w) ha
  have fx : ∀ d ∈ a :: zs w, Nx d := fun d hd => (ff.nm d hd).x
  obtain ⟨o1, e1⟩ := agrees_ok fx hp (by rw [ff.len, hl]) (by omega) st
  have e2 := form_is_ok fx (by rw [ff.len]; omega) (st ++ o1)
  obtain ⟨o2, e3⟩ := is_flat_ok (a := a) (f := zs w) (fun d hd => (mem_zs hd).x) (by simp; omega) (st ++ o1)
  rw [zs_all] at e3
  generalize hs2 : st ++ o1 ++ o2 = s2 at e3
  obtain ⟨ρ', s3, e4, x3, x4, o3, e5, e6⟩ := loop_inv (chk := fun _ => true) (t := tgN 4) (body := p5B)
    (I := fun don cs ρ s => ∃ (x3 x4 : Option D) (os : List Ob), ρ = pE a pt (some (.int w)) x3 x4 none ∧ s = s2 ++ os ∧ don ++ cs = rangeD 0 (w : Int))
    (fun don d cs ρ s ⟨x3, x4, os, e, es, h⟩ => by
      subst e es
      have hd : d ∈ rangeD 0 (w : Int) := by rw [← h]; simp
      obtain ⟨k, hk, rfl⟩ := mem_rng hd
      have fp := fm_par hk
      have fpx : ∀ d ∈ par k w, Nx d := fun d hd => (fp.nm d hd).x
      have q1 := parameter_ok hk (by omega) (s2 ++ os)
      obtain ⟨oa, q2⟩ := agrees_ok fpx hp (by rw [fp.len, hl]) (by omega) (s2 ++ os)
      have q3 := parameter_k_ok hk (by omega) (s2 ++ os ++ oa)
      have q4 := form_is_ok fpx (by rw [fp.len]; omega) (s2 ++ os ++ oa)
      obtain ⟨ob, q5⟩ := par_flat hk (by omega) (s2 ++ os ++ oa)
      have z1 := zs_mul (k + 1) (by omega) (s2 ++ os)
      have z2 := zs_mul (w - k - 1) (by omega) (s2 ++ os)
      rw [show (((w - k - 1 : Nat)) : Int) = (w : Int) - (k : Int) - 1 by omega] at z2
      refine ⟨rfl, _, rfl, pE a pt (some (.int w)) (some (.tup (par k w))) (some (.int k)) none, s2 ++ os ++ oa ++ ob, .inl ?_, some (.tup (par k w)), some (.int k), os ++ (oa ++ ob), rfl, by simp only [List.append_assoc], by rw [List.append_assoc]; exact h⟩
      refine seq_nx (ρ1 := pE a pt (some (.int w)) (some (.tup (par k w))) (some (.int k)) none) (st1 := s2 ++ os) (set_ok (bin_ok (x := .tup (zs (k + 1) ++ [fr 1 1])) (bin_ok (bin_ok (tup_ok (cons_ok (tup_ok (cons_ok c_ok (cons_ok c_ok nil_ok))) nil_ok)) (bin_ok (v_ok rfl) c_ok rfl) z1) (tup_ok (cons_ok (tup_ok (cons_ok c_ok (cons_ok c_ok nil_ok))) nil_ok)) (by rw [gAdd_tup, if_pos (by simp; omega)])) (bin_ok (tup_ok (cons_ok (tup_ok (cons_ok c_ok (cons_ok c_ok nil_ok))) nil_ok)) (bin_ok (bin_ok (v_ok rfl) (v_ok rfl) rfl) c_ok rfl) z2) (by rw [gAdd_tup, if_pos (by simp; omega)]))) ?_
      refine seq_nx (ρ1 := pE a pt (some (.int w)) (some (.tup (par k w))) (some (.int k)) none) (st1 := s2 ++ os ++ oa) (ifn_ok (call_ok (cons_ok (call_ok (cons_ok (bin_ok (v_ok rfl) c_ok rfl) (cons_ok (v_ok rfl) nil_ok)) q1) (cons_ok (v_ok rfl) (cons_ok (v_ok rfl) nil_ok))) q2)) ?_
      refine seq_nx (ρ1 := pE a pt (some (.int w)) (some (.tup (par k w))) (some (.int k)) none) (st1 := s2 ++ os ++ oa) (ifn_ok (call_ok (cons_ok (call_ok (cons_ok (v_ok rfl) (cons_ok (bin_ok (v_ok rfl) c_ok rfl) nil_ok)) q3) (cons_ok (v_ok rfl) nil_ok)) q4)) ?_
      exact ifn_ok (call_ok (cons_ok (call_ok (cons_ok (v_ok rfl) nil_ok) q5) (cons_ok c_ok nil_ok)) (truth_ok false _)))
    (fun _ _ _ _ => rfl) (rangeD 0 (w : Int)) [] (pE a pt (some (.int w)) (some (.tup (a :: zs w))) none none) s2 ⟨some (.tup (a :: zs w)), none, [], rfl, (List.append_nil _).symm, rfl⟩
  obtain ⟨e6, e7⟩ := e6
  subst e5 e6
  have ef : (fLst (fCons (fC (.int 0)) (fCons (fUn gNeg (fC (.int 1))) (fCons (fBin gAdd (fVar 2) (fC (.int 1))) (fCons (fBin gAdd (fVar 2) (fC (.int 7))) (fNil)))))) (pE a pt (some (.int w)) x3 x4 none) (s2 ++ o3) = .ok (.loc (s2 ++ o3).length) (s2 ++ o3 ++ [.lst [.int 0, .int (-1), .int (w + 1), .int (w + 7)]]) :=
    lst_ok (cons_ok c_ok (cons_ok (un_ok c_ok rfl) (cons_ok (bin_ok (v_ok rfl) c_ok rfl) (cons_ok (bin_ok (v_ok rfl) c_ok rfl) nil_ok))))
  obtain ⟨y, o4, e8⟩ := loop_app (i := 5) (body := p6B) (ρ0 := pE a pt (some (.int w)) x3 x4 none) (chk := fun s => decide (lstAt s (s2 ++ o3).length = some [.int 0, .int (-1), .int (w + 1), .int (w + 7)])) [.int 0, .int (-1), .int (w + 1), .int (w + 7)] (s2 ++ o3 ++ [.lst [.int 0, .int (-1), .int (w + 1), .int (w + 7)]]) none
    (fun os => decide_eq_true (lst_app _ (lstAt_lst app_new))) (fun d hd os => by
      generalize s2 ++ o3 ++ [Ob.lst [.int 0, .int (-1), .int (w + 1), .int (w + 7)]] ++ os = s9
      have key : ∀ v : Int, (v < 1 ∨ (w : Int) < v) → ∃ os', p6B (pE a pt (some (.int w)) x3 x4 (some (.int v))) s9 = .nx (pE a pt (some (.int w)) x3 x4 (some (.int v))) (s9 ++ os') := fun v hv => by
        obtain ⟨os', e⟩ := place_refused_ok hv s9
        exact ⟨os', ifn_ok (call_ok (cons_ok (v_ok rfl) (cons_ok (v_ok rfl) nil_ok)) e)⟩
      simp only [List.mem_cons, List.not_mem_nil, or_false] at hd
      rcases hd with e | e | e | e <;> rw [e] <;> exact key _ (by omega))
  refine ⟨o1 ++ (o2 ++ (o3 ++ ([.lst [.int 0, .int (-1), .int (w + 1), .int (w + 7)]] ++ o4))), ?_⟩
  rw [show st ++ (o1 ++ (o2 ++ (o3 ++ ([Ob.lst [.int 0, .int (-1), .int (w + 1), .int (w + 7)]] ++ o4)))) = s2 ++ o3 ++ [.lst [.int 0, .int (-1), .int (w + 1), .int (w + 7)]] ++ o4 by rw [← hs2]; simp only [List.append_assoc]]
  have z0 := zs_mul w (by omega) st
  refine den_end rfl (show m__law_plain_right (pE a pt none none none none) st = _ from ?_)
  refine seq_nx (ρ1 := pE a pt (some (.int w)) none none none) (st1 := st) (set_ok (args_ok (cons_ok (v_ok rfl) nil_ok) (by rw [gLen_tup, hl]))) ?_
  refine seq_nx (ρ1 := pE a pt (some (.int w)) (some (.tup (a :: zs w))) none none) (st1 := st) (set_ok (bin_ok (tup_ok (cons_ok (v_ok rfl) nil_ok)) (bin_ok (tup_ok (cons_ok (tup_ok (cons_ok c_ok (cons_ok c_ok nil_ok))) nil_ok)) (v_ok rfl) z0) (by rw [gAdd_tup, if_pos (by simp; omega)]; rfl))) ?_
  refine seq_nx (ρ1 := pE a pt (some (.int w)) (some (.tup (a :: zs w))) none none) (st1 := st ++ o1) (ifn2_ok (call_ok (cons_ok (call_ok (cons_ok (v_ok rfl) (cons_ok (v_ok rfl) nil_ok)) (flat_ok (by omega) st)) (cons_ok (v_ok rfl) (cons_ok (v_ok rfl) nil_ok))) e1) (call_ok (cons_ok (call_ok (cons_ok (v_ok rfl) (cons_ok (v_ok rfl) nil_ok)) (flat_k_ok (by omega) _)) (cons_ok (v_ok rfl) nil_ok)) e2)) ?_
  refine seq_nx (ρ1 := pE a pt (some (.int w)) (some (.tup (a :: zs w))) none none) (st1 := s2) (ifn_ok (call_ok (cons_ok (call_ok (cons_ok (v_ok rfl) nil_ok) e3) (cons_ok c_ok nil_ok)) (truth_ok true _))) ?_
  refine seq_nx (ρ1 := pE a pt (some (.int w)) x3 x4 none) (st1 := s2 ++ o3) ?_ ?_
  · rw [sForR1_ok (j := (w : Int)) (st1 := s2) (cons_ok (v_ok rfl) nil_ok) (small_nat (by omega))]
    exact e4
  · refine seq_nx (ρ1 := pE a pt (some (.int w)) x3 x4 y) ?_ (ret_ok c_ok)
    rw [sFor_loc ef (lstAt_lst app_new)]
    exact e8
end K03

set_option Elab.async false
set_option linter.all false
set_option maxRecDepth 100000
set_option maxHeartbeats 4000000
namespace K03
open PySem MP

theorem add_sum {L : List D} {c : D} (hL : ∀ d ∈ L, Nw d) (hc : Nw c) : addD (sumD L) c = sumD (L ++ [c]) := by
  obtain ⟨p, q, rfl, N⟩ := hc
  have b := bd_fold L 0 (0, 1) bd0 hL
  obtain ⟨g, a, c, hg, e1, e2, hb, hr, e⟩ := low_spec (p := (L.foldl fs (0, 1)).1) b.pos
  show addD (low _ _) (fr p q) = _
  rw [e]
  unfold sumD
  rw [List.foldl_append]
  show low (a * q + p * c) (c * q) = low ((L.foldl fs (0, 1)).1 * q + p * (L.foldl fs (0, 1)).2) ((L.foldl fs (0, 1)).2 * q)
  rw [e1, e2]
  have t1 : g * a * q + p * (g * c) = g * (a * q + p * c) := by
    rw [Int.mul_add, Int.mul_assoc, Int.mul_left_comm p g c]
  have t2 : g * c * q = g * (c * q) := Int.mul_assoc _ _ _
  rw [t1, t2, low_scale hg]
theorem form_plus_gen {f g : List D} (h : ∀ d ∈ zipD f g, ∀ s, ∃ a b, d = .tup [a, b] ∧ g_plus [a, b] s = .ok (addD a b) s) (hl : f.length ≤ 1000) (st : S) : ∃ os, g_form_plus [.tup f, .tup g] st = .ok (.tup (List.zipWith addD f g)) (st ++ os) := by
  have e := fLc_map (own := [2, 3]) (fi := fZip (fCons (fVar 0) (fCons (fVar 1) (fNil)))) (g := tgTup [tgN 2, tgN 3]) (fe := fCall g_plus (fCons (fVar 2) (fCons (fVar 3) (fNil)))) (ρ := [some (.tup f), some (.tup g), none, none]) (st := st) (st1 := st) (ds := zipD f g) (chk := fun _ => true) (F := un2 addD)
    rfl (zip_short hl) (fun _ => rfl) (fun d hd xs => by
      obtain ⟨a, b, rfl, hp⟩ := h d hd (st ++ [.lst xs])
      exact ⟨_, rfl, by simpa [wipeE, un2] using hp⟩)
  rw [zip_un] at e
  exact ⟨[.lst (List.zipWith addD f g)], den_end rfl (ret_ok (args_ok (cons_ok e nil_ok) (gTuple_loc (lstAt_lst app_new))))⟩
theorem cols_nil (w : Nat) : cols [] w = zs (w + 1) := by
  refine List.ext_getElem (by simp [cols]) fun i h1 h2 => ?_
  simp only [cols, List.getElem_map, List.getElem_range, List.map_nil, List.getElem_replicate]
  exact low_one 0
theorem col_nw {w i : Nat} {fms : List (List D)} (hf : ∀ f ∈ fms, Fm w f) (hi : i < w + 1) : ∀ d ∈ fms.map (fun f => f.getD i D.non), Nw d := fun d hd => by
  obtain ⟨f, hfm, rfl⟩ := List.mem_map.mp hd
  obtain ⟨h1, h2⟩ := (hf f hfm).at_ hi
  show Nw (f.getD i D.non)
  rw [h2]
  exact ((hf f hfm).nm _ (List.getElem_mem _)).w
theorem cols_nx {w : Nat} {fms : List (List D)} (hf : ∀ f ∈ fms, Fm w f) : ∀ d ∈ cols fms w, Nx d := fun d hd => by
  unfold cols at hd
  obtain ⟨i, hi, rfl⟩ := List.mem_map.mp hd
  rw [List.mem_range] at hi
  exact sum_nx (col_nw hf hi)
theorem cols_len (fms : List (List D)) (w : Nat) : (cols fms w).length = w + 1 := by simp [cols]
theorem cols_snoc {w : Nat} {don : List (List D)} {f : List D} (hd : ∀ f ∈ don, Fm w f) (hf : Fm w f) : cols (don ++ [f]) w = List.zipWith addD (cols don w) f := by
  refine List.ext_getElem (by simp [cols, hf.len]) fun i h1 h2 => ?_
  have hi : i < w + 1 := by simpa [cols] using h1
  obtain ⟨k1, e1⟩ := hf.at_ hi
  simp only [cols, List.getElem_map, List.getElem_range, List.getElem_zipWith, List.map_append, List.map_cons, List.map_nil, e1]
  exact (add_sum (col_nw hd hi) (hf.nm _ (List.getElem_mem _)).w).symm
theorem cols_plus {w : Nat} {don : List (List D)} {f : List D} (hd : ∀ f ∈ don, Fm w f) (hl : don.length ≤ 6) (hf : Fm w f) (hw : w ≤ 100) (st : S) : ∃ os, g_form_plus [.tup (cols don w), .tup f] st = .ok (.tup (cols (don ++ [f]) w)) (st ++ os) := by
  rw [cols_snoc hd hf]
  refine form_plus_gen (fun d hz s => ?_) (by rw [cols_len]; omega) st
  obtain ⟨i, hi, e⟩ := List.mem_iff_getElem.mp hz
  rw [zipD_len, cols_len, hf.len] at hi
  have hi : i < w + 1 := by omega
  obtain ⟨k1, e1⟩ := hf.at_ hi
  refine ⟨(cols don w)[i]'(by rw [cols_len]; omega), f[i], ?_, ?_⟩
  · rw [← e]
    simp [zipD]
  · have nf := (hf.nm _ (List.getElem_mem k1)).w
    have q := plus_sum (col_nw hd hi) (by rw [List.length_map]; omega) nf s
    rw [← add_sum (col_nw hd hi) nf] at q
    simp only [cols, List.getElem_map, List.getElem_range]
    exact q
noncomputable abbrev ftB : FS := sSet 2 (fCall g_form_plus (fCons (fVar 2) (fCons (fVar 3) (fNil))))
/-- the loop of form_total over anything -/
theorem ft_loop {w : Nat} {G : D} {chk : S → Bool} {fms : List (List D)} (hf : ∀ f ∈ fms, Fm w f) (hl : fms.length ≤ 6) (hw : w ≤ 100) (st : S) (hc : ∀ os, chk (st ++ os) = true) :
    ∃ x os, sLoop chk (tgN 3) ftB (fms.map D.tup) [some G, some (.int w), some (.tup (zs (w + 1))), none] st = .nx [some G, some (.int w), some (.tup (cols fms w)), x] (st ++ os) := by
  obtain ⟨ρ', s', e1, x, don, os, e2, e3, e4, e5⟩ := loop_inv (chk := chk) (t := tgN 3) (body := ftB)
    (I := fun d0 cs ρ s => ∃ (x : Option D) (don : List (List D)) (os : List Ob), ρ = [some G, some (.int w), some (.tup (cols don w)), x] ∧ s = st ++ os ∧ d0 = don.map D.tup ∧ d0 ++ cs = fms.map D.tup)
    (fun d0 d cs ρ s ⟨x, don, os, e, es, h0, h⟩ => by
      subst e es h0
      have hd : d ∈ fms.map D.tup := by rw [← h]; simp
      obtain ⟨f, hfm, rfl⟩ := List.mem_map.mp hd
      have hdon : ∀ g ∈ don, Fm w g := fun g hg => by
        have : D.tup g ∈ fms.map D.tup := by rw [← h]; exact List.mem_append_left _ (List.mem_map_of_mem hg)
        obtain ⟨g', hg', e⟩ := List.mem_map.mp this
        injection e with e
        rw [← e]
        exact hf g' hg'
      have hlen : don.length ≤ 6 := by
        have := congrArg List.length h
        rw [List.length_append, List.length_map, List.length_cons, List.length_map] at this
        omega
      obtain ⟨oa, q⟩ := cols_plus hdon hlen (hf f hfm) hw (st ++ os)
      exact ⟨hc os, _, rfl, [some G, some (.int w), some (.tup (cols (don ++ [f]) w)), some (.tup f)], st ++ os ++ oa, .inl (set_ok (call_ok (cons_ok (v_ok rfl) (cons_ok (v_ok rfl) nil_ok)) q)), some (.tup f), don ++ [f], os ++ oa, rfl, by rw [List.append_assoc], by simp, by rw [List.append_assoc]; exact h⟩)
    (fun d0 ρ s ⟨x, don, os, e, es, h0, h⟩ => by rw [es]; exact hc os) (fms.map D.tup) [] [some G, some (.int w), some (.tup (zs (w + 1))), none] st ⟨none, [], [], by rw [cols_nil], (List.append_nil _).symm, rfl, rfl⟩
  rw [List.nil_append] at e4
  have ed : don = fms := by
    have inj : ∀ (a b : List (List D)), a.map D.tup = b.map D.tup → a = b := fun a => by
      induction a with
      | nil => intro b h; cases b with
        | nil => rfl
        | cons _ _ => cases h
      | cons x a ih => intro b h; cases b with
        | nil => cases h
        | cons y b =>
          rw [List.map_cons, List.map_cons] at h
          injection h with h1 h2
          injection h1 with h1
          rw [h1, ih b h2]
    exact (inj _ _ e4).symm
  subst ed
  exact ⟨x, os, by rw [e1, e2, e3]⟩
theorem form_total_loc {w k : Nat} {fms : List (List D)} {st : S} (hk : lstAt st k = some (fms.map D.tup)) (hf : ∀ f ∈ fms, Fm w f) (hl : fms.length ≤ 6) (hw : w ≤ 100) : ∃ os, g_form_total [.loc k, .int w] st = .ok (.tup (cols fms w)) (st ++ os) := by
  obtain ⟨x, os, e⟩ := ft_loop (G := .loc k) (chk := fun s => decide (lstAt s k = some (fms.map D.tup))) hf hl hw st (fun os => decide_eq_true (lst_app _ hk))
  refine ⟨os, den_end rfl (seq_nx (ρ1 := [some (.loc k), some (.int w), some (.tup (zs (w + 1))), none]) (st1 := st) (set_ok (call_ok (cons_ok c_ok (cons_ok (v_ok rfl) nil_ok)) (flat_ok (by omega) st))) (seq_nx (ρ1 := [some (.loc k), some (.int w), some (.tup (cols fms w)), x]) (st1 := st ++ os) ?_ (ret_ok (v_ok rfl))))⟩
  rw [sFor_loc (n := k) (st1 := st) (v_ok rfl) hk]
  exact e
theorem form_total_tup {w : Nat} {fms : List (List D)} (st : S) (hf : ∀ f ∈ fms, Fm w f) (hl : fms.length ≤ 6) (hw : w ≤ 100) : ∃ os, g_form_total [.tup (fms.map D.tup), .int w] st = .ok (.tup (cols fms w)) (st ++ os) := by
  obtain ⟨x, os, e⟩ := ft_loop (G := .tup (fms.map D.tup)) (chk := fun _ => true) hf hl hw st (fun os => rfl)
  refine ⟨os, den_end rfl (seq_nx (ρ1 := [some (.tup (fms.map D.tup)), some (.int w), some (.tup (zs (w + 1))), none]) (st1 := st) (set_ok (call_ok (cons_ok c_ok (cons_ok (v_ok rfl) nil_ok)) (flat_ok (by omega) st))) (seq_nx (ρ1 := [some (.tup (fms.map D.tup)), some (.int w), some (.tup (cols fms w)), x]) (st1 := st ++ os) ?_ (ret_ok (v_ok rfl))))⟩
  rw [sFor_tup (st1 := st) (v_ok rfl)]
  exact e
/-! ### lists that grow beside the bag -/
structure Grow (P : D → Prop) (b : Nat) (st : S) (m : Nat) (L : List D) (s : S) : Prop where
  at_ : s[m]? = some (.lst L)
  nm : ∀ d ∈ L, P d
  ext : Ext b st s
theorem Grow.add {P : D → Prop} {b m : Nat} {st s s' : S} {L : List D} {d : D} (g : Grow P b st m L s) (x : Ext b s s') (hm : m ≠ b) (hs : st.length ≤ m) (hd : P d) (hl : L.length < 1000) :
    gAppend (.loc m) [d] s' = some (.non, s'.set m (.lst (L ++ [d]))) ∧ Grow P b st m (L ++ [d]) (s'.set m (.lst (L ++ [d]))) := by
  have a := x.at_ hm g.at_
  refine ⟨gAppend_loc a (small_len hl), set_at (lt_of_at a), fun e he => ?_, ?_, ?_, ?_⟩
  · rcases List.mem_append.mp he with he | he
    · exact g.nm e he
    · rw [List.mem_singleton.mp he]; exact hd
  · obtain ⟨x0, y0, r0, e0⟩ := x.bag
    exact ⟨x0, y0, r0, by rw [set_ne (Ne.symm hm)]; exact e0⟩
  · rw [List.length_set]
    exact Nat.le_trans g.ext.len x.len
  · intro k o hk he
    rw [set_ne (by have := lt_of_at he; omega)]
    exact x.keep k o hk (g.ext.keep k o hk he)
theorem pickP {P : D → Prop} {st : S} {b rw : Nat} {ds : List D} (hb : Bag st b) (ha : st[rw]? = some (.lst ds)) (hn : rw ≠ b) (hP : ∀ d ∈ ds, P d) (h0 : 0 < ds.length) (hl : ds.length < 1000) :
    ∃ d s', g__law_pick [.loc b, .loc rw] st = .ok d s' ∧ P d ∧ Ext b st s' := by
  obtain ⟨r, s1, er, r0, r1, x1⟩ := take_ok hb (m := (ds.length : Int)) (by omega) (divok_len h0 hl)
  have hlt : r.toNat < ds.length := by omega
  have a1 := atI_nat (List.getElem?_eq_getElem hlt)
  rw [show ((r.toNat : Nat) : Int) = r by omega] at a1
  refine ⟨_, s1, den_end rfl (ret_ok (bin_ok (v_ok rfl) (call_ok (cons_ok (v_ok rfl) (cons_ok (args_ok (cons_ok (v_ok rfl) nil_ok) (gLen_loc _ (lstAt_lst ha))) nil_ok)) er) ?_)), hP _ (List.getElem_mem hlt), x1⟩
  rw [gIx_loc _ _ (lstAt_lst (x1.at_ hn ha)), a1]
  rfl
/-- a loop that picks one a turn -/
theorem picks_ok {P : D → Prop} {i r src bv : Nat} {ρ0 : En} {st s1 : S} {b rw m k : Nat} {ds L0 : List D} {x0 : Option D} (hm : ∀ x, (ρ0.set i x)[r]? = some (some (.loc m))) (hs : ∀ x, (ρ0.set i x)[src]? = some (some (.loc rw))) (hbv : ∀ x, (ρ0.set i x)[bv]? = some (some (.loc b)))
    (g0 : Grow P b st m L0 s1) (hmb : m ≠ b) (hsm : st.length ≤ m) (hr : st[rw]? = some (.lst ds)) (hn : rw ≠ b) (hP : ∀ d ∈ ds, P d) (h0 : 0 < ds.length) (hl : ds.length < 1000) (hk : L0.length + k < 1000) :
    ∃ y L s2, sLoop (fun _ => true) (tgN i) (sExpr (fLM gAppend (fVar r) (fCons (fCall g__law_pick (fCons (fVar bv) (fCons (fVar src) (fNil)))) (fNil)))) (rangeD 0 (k : Int)) (ρ0.set i x0) s1 = .nx (ρ0.set i y) s2 ∧ Grow P b st m L s2 ∧ L.length = L0.length + k := by
  obtain ⟨ρ', s2, e1, y, L, e2, h2, h3, g⟩ := loop_inv (chk := fun _ => true) (t := tgN i) (body := sExpr (fLM gAppend (fVar r) (fCons (fCall g__law_pick (fCons (fVar bv) (fCons (fVar src) (fNil)))) (fNil))))
    (I := fun don cs ρ s => ∃ (y : Option D) (L : List D), ρ = ρ0.set i y ∧ L.length = L0.length + don.length ∧ don.length + cs.length = k ∧ Grow P b st m L s)
    (fun don d cs ρ s ⟨y, L, e, hL, ht, g⟩ => by
      subst e
      rw [List.length_cons] at ht
      obtain ⟨d', s', ed, pd, x⟩ := pickP g.ext.bag (g.ext.at_ hn hr) hn hP h0 hl
      obtain ⟨ap, g'⟩ := g.add x hmb hsm pd (by omega)
      refine ⟨rfl, ρ0.set i (some d), by rw [tgN_ap, List.set_set], ρ0.set i (some d), _, .inl ?_, some d, L ++ [d'], rfl, by simp [hL]; omega, by simp; omega, g'⟩
      have c := call_ok (G := g__law_pick) (cons_ok (v_ok (hbv (some d))) (cons_ok (v_ok (hs (some d))) (nil_ok (st := s)))) ed
      simp only [sExpr_ap, fLM_ap, fVar_ap, hm, Out.bind_ok, lstAt_lst g.at_, fCons_ap, c, fNil_ap, ap, ofO, Out.so_ok])
    (fun _ _ _ _ => rfl) (rangeD 0 (k : Int)) [] (ρ0.set i x0) s1 ⟨x0, L0, rfl, rfl, by rw [rangeD_len]; simp, g0⟩
  refine ⟨y, L, s2, by rw [e1, e2], g, ?_⟩
  rw [h2]
  simp [rangeD_len]
theorem law_form_ok {st : S} {b rw w : Nat} {ds : List D} (hb : Bag st b) (hr : Row st rw ds) (hn : rw ≠ b) (hbl : b < st.length) (h0 : 0 < ds.length) (hl : ds.length < 1000) (hw : w ≤ 100) :
    ∃ f s', g__law_form [.loc b, .loc rw, .int w] st = .ok (.tup f) s' ∧ Fm w f ∧ Ext b st s' := by
  obtain ⟨y, s1, ey, y0, y1, x1⟩ := take_ok hb (m := 3) (by decide) (by decide)
  obtain ⟨d0, s2, ed, nd, x2⟩ := pickP (P := Nm) x1.bag (x1.at_ hn hr.at_) hn hr.nm h0 hl
  have nb : s2.length ≠ b := by have := x1.len; have := x2.len; omega
  have nr : s2.length ≠ rw := by have := lt_of_at hr.at_; have := x1.len; have := x2.len; omega
  have x02 := x1.trans x2
  have g0 : Grow Nm b st s2.length [d0] (s2 ++ [.lst [d0]]) := ⟨app_new, fun d hd => by rw [List.mem_singleton.mp hd]; exact nd, x02.app _⟩
  obtain ⟨ρ', s3, e1, z, L, e2, h2, h3, g⟩ := loop_inv (chk := fun _ => true) (t := tgN 5) (body := sIf (fOr (fIsB (fBin gEq (fVar 3) (fC (.int 0)))) (fAnd (fIsB (fBin gEq (fVar 3) (fC (.int 1)))) (fIsB (fBin gEq (fCall g__law_take (fCons (fVar 0) (fCons (fC (.int 2)) (fNil)))) (fC (.int 0)))))) (sExpr (fLM gAppend (fVar 4) (fCons (fTup (fCons (fC (.int 0)) (fCons (fC (.int 1)) (fNil)))) (fNil)))) (sExpr (fLM gAppend (fVar 4) (fCons (fCall g__law_pick (fCons (fVar 0) (fCons (fVar 1) (fNil)))) (fNil)))))
    (I := fun don cs ρ s => ∃ (z : Option D) (L : List D), ρ = [some (.loc b), some (.loc rw), some (.int w), some (.int y), some (.loc s2.length), z] ∧ L.length = 1 + don.length ∧ don.length + cs.length = w ∧ Grow Nm b st s2.length L s)
    (fun don d cs ρ s ⟨z, L, e, hL, ht, g⟩ => by
      subst e
      rw [List.length_cons] at ht
      have hsl : st.length ≤ s2.length := x02.len
      have zero : ∀ s', Ext b s s' → ∃ s'', (sExpr (fLM gAppend (fVar 4) (fCons (fTup (fCons (fC (.int 0)) (fCons (fC (.int 1)) (fNil)))) (fNil)))) [some (.loc b), some (.loc rw), some (.int w), some (.int y), some (.loc s2.length), some d] s' = .nx [some (.loc b), some (.loc rw), some (.int w), some (.int y), some (.loc s2.length), some d] s'' ∧ Grow Nm b st s2.length (L ++ [fr 0 1]) s'' := fun s' x => by
        obtain ⟨ap, g'⟩ := g.add x nb hsl nm_01 (by omega)
        exact ⟨_, by simp [lstAt_lst (x.at_ nb g.at_), ap], g'⟩
      have some_ : ∀ s', Ext b s s' → ∃ d' s'', (sExpr (fLM gAppend (fVar 4) (fCons (fCall g__law_pick (fCons (fVar 0) (fCons (fVar 1) (fNil)))) (fNil)))) [some (.loc b), some (.loc rw), some (.int w), some (.int y), some (.loc s2.length), some d] s' = .nx [some (.loc b), some (.loc rw), some (.int w), some (.int y), some (.loc s2.length), some d] s'' ∧ Grow Nm b st s2.length (L ++ [d']) s'' := fun s' x => by
        obtain ⟨d', s5, e5, pd, x5⟩ := pickP (P := Nm) x.bag (x.at_ hn (g.ext.at_ hn hr.at_)) hn hr.nm h0 hl
        obtain ⟨ap, g'⟩ := g.add (x.trans x5) nb hsl pd (by omega)
        exact ⟨d', _, by simp [lstAt_lst (x.at_ nb g.at_), e5, ap], g'⟩
      by_cases c0 : y = 0
      · obtain ⟨s'', e, g'⟩ := zero s (Ext.refl g.ext.bag)
        refine ⟨rfl, _, rfl, _, s'', .inl (if_t (or_t (isb_ok (bin_ok (v_ok rfl) c_ok (by rw [gEq_int, decide_eq_true c0])))) e), some d, _, rfl, by simp [hL]; omega, by simp; omega, g'⟩
      · by_cases c1 : y = 1
        · obtain ⟨r, s4, e4, r0, r1, x4⟩ := take_ok g.ext.bag (m := 2) (by decide) (by decide)
          by_cases c2 : r = 0
          · obtain ⟨s'', e, g'⟩ := zero s4 x4
            refine ⟨rfl, _, rfl, _, s'', .inl (if_t (or_f (isb_ok (bin_ok (v_ok rfl) c_ok (by rw [gEq_int, decide_eq_false c0]))) (and_t (isb_ok (bin_ok (v_ok rfl) c_ok (by rw [gEq_int, decide_eq_true c1]))) (isb_ok (bin_ok (call_ok (cons_ok (v_ok rfl) (cons_ok c_ok nil_ok)) e4) c_ok (by rw [gEq_int, decide_eq_true c2]))))) e), some d, _, rfl, by simp [hL]; omega, by simp; omega, g'⟩
          · obtain ⟨d', s'', e, g'⟩ := some_ s4 x4
            refine ⟨rfl, _, rfl, _, s'', .inl (if_f (or_f (isb_ok (bin_ok (v_ok rfl) c_ok (by rw [gEq_int, decide_eq_false c0]))) (and_t (isb_ok (bin_ok (v_ok rfl) c_ok (by rw [gEq_int, decide_eq_true c1]))) (isb_ok (bin_ok (call_ok (cons_ok (v_ok rfl) (cons_ok c_ok nil_ok)) e4) c_ok (by rw [gEq_int, decide_eq_false c2]))))) e), some d, _, rfl, by simp [hL]; omega, by simp; omega, g'⟩
        · obtain ⟨d', s'', e, g'⟩ := some_ s (Ext.refl g.ext.bag)
          refine ⟨rfl, _, rfl, _, s'', .inl (if_f (or_f (isb_ok (bin_ok (v_ok rfl) c_ok (by rw [gEq_int, decide_eq_false c0]))) (and_f (isb_ok (bin_ok (v_ok rfl) c_ok (by rw [gEq_int, decide_eq_false c1]))))) e), some d, _, rfl, by simp [hL]; omega, by simp; omega, g'⟩)
    (fun _ _ _ _ => rfl) (rangeD 0 (w : Int)) [] [some (.loc b), some (.loc rw), some (.int w), some (.int y), some (.loc s2.length), none] (s2 ++ [.lst [d0]]) ⟨none, [d0], rfl, rfl, by rw [rangeD_len]; simp, g0⟩
  refine ⟨L, s3, den_end rfl (seq_nx (ρ1 := [some (.loc b), some (.loc rw), some (.int w), some (.int y), none, none]) (st1 := s1) (set_ok (call_ok (cons_ok (v_ok rfl) (cons_ok c_ok nil_ok)) ey)) (seq_nx (ρ1 := [some (.loc b), some (.loc rw), some (.int w), some (.int y), some (.loc s2.length), none]) (st1 := s2 ++ [.lst [d0]]) (set_ok (lst_ok (cons_ok (call_ok (cons_ok (v_ok rfl) (cons_ok (v_ok rfl) nil_ok)) ed) nil_ok))) (seq_nx (ρ1 := [some (.loc b), some (.loc rw), some (.int w), some (.int y), some (.loc s2.length), z]) (st1 := s3) ?_ (ret_ok (args_ok (cons_ok (v_ok rfl) nil_ok) (gTuple_loc (lstAt_lst g.at_))))))), ⟨?_, g.nm⟩, g.ext⟩
  · rw [sForR1_ok (j := (w : Int)) (st1 := s2 ++ [.lst [d0]]) (by simp) (small_nat (by omega)), e1, e2]
  · rw [h2]
    simp [rangeD_len]
    omega
end K03

set_option Elab.async false
set_option linter.all false
set_option maxRecDepth 100000
set_option maxHeartbeats 4000000
namespace K03
open PySem MP

def Fd (w : Nat) (d : D) : Prop := ∃ f, d = .tup f ∧ Fm w f
theorem fd_map {w : Nat} : ∀ (L : List D), (∀ d ∈ L, Fd w d) → ∃ fms : List (List D), L = fms.map D.tup ∧ ∀ f ∈ fms, Fm w f
  | [], _ => ⟨[], rfl, fun _ h => (nomatch h)⟩
  | d :: L, h => by
    obtain ⟨f, rfl, hf⟩ := h d List.mem_cons_self
    obtain ⟨fms, rfl, hm⟩ := fd_map L fun d' h' => h d' (List.mem_cons_of_mem _ h')
    exact ⟨f :: fms, rfl, fun g hg => by
      rcases List.mem_cons.mp hg with e | e
      · rw [e]; exact hf
      · exact hm g e⟩
abbrev tE (b rwf w : Nat) (few k due given ans : Option D) : En := [some (.loc b), some (.loc rwf), some (.int w), few, k, due, given, ans]
noncomputable abbrev t7B : FS := sIf (fNot (fTru (fCall g__law_form_is (fCons (fBin gIx (fVar 6) (fVar 4)) (fCons (fBin gIx (fVar 3) (fVar 4)) (fNil)))))) (sRet (fC (.bl false))) (sSkip)
theorem total_right_ok {st : S} {b rwf w : Nat} {fs0 : List D} (hb : Bag st b) (hr : st[rwf]? = some (.lst fs0)) (hn : rwf ≠ b) (hbl : b < st.length) (hf : ∀ d ∈ fs0, Fd w d) (h0 : 0 < fs0.length) (hl : fs0.length < 1000) (hw : w ≤ 6) :
    ∃ s', g__law_total_right [.loc b, .loc rwf, .int w] st = .ok (.bl true) s' := by
  have nb : st.length ≠ b := by omega
  obtain ⟨n, s1, en, n0, n1, x1⟩ := take_ok (st := st ++ [.lst []]) (b := b) ((Ext.refl hb).app _).bag (m := 7) (by decide) (by decide)
  obtain ⟨k, hk⟩ : ∃ k : Nat, n = (k : Int) := ⟨n.toNat, by omega⟩
  subst hk
  have g0 : Grow (Fd w) b st st.length [] s1 := ⟨x1.at_ nb app_new, (fun _ h => by cases h), ((Ext.refl hb).app _).trans x1⟩
  obtain ⟨y, L, s2, e1, g, hL⟩ := picks_ok (i := 4) (r := 3) (src := 1) (bv := 0) (ρ0 := tE b rwf w (some (.loc st.length)) none none none none) (x0 := none) (k := k) (fun _ => rfl) (fun _ => rfl) (fun _ => rfl) g0 nb (Nat.le_refl _) hr hn hf h0 hl (by simp; omega)
  obtain ⟨fms, rfl, hm⟩ := fd_map L g.nm
  have hl6 : fms.length ≤ 6 := by
    rw [List.length_map, List.length_nil] at hL
    omega
  have lk := lstAt_lst g.at_
  obtain ⟨o1, e2⟩ := forms_sum_ok lk hm (by omega) (by omega)
  have lk1 : lstAt (s2 ++ o1) st.length = some (fms.map D.tup) := lst_app _ lk
  have e3 := gList_loc lk1
  generalize hs3 : s2 ++ o1 ++ [Ob.lst (fms.map D.tup)] = s3 at e3
  have lg : lstAt s3 (s2 ++ o1).length = some (fms.map D.tup) := by rw [← hs3]; exact lstAt_lst app_new
  have lf : lstAt s3 st.length = some (fms.map D.tup) := by rw [← hs3]; exact lst_app _ lk1
  obtain ⟨o2, e4⟩ := form_total_loc lg hm hl6 (by omega)
  have cx := cols_nx hm
  have cl := cols_len fms w
  have e5 := form_is_ok cx (by rw [cl]; omega) (s3 ++ o2)
  have lg2 := lst_app o2 lg
  have lf2 := lst_app o2 lf
  obtain ⟨z, e6⟩ := loop_keep (i := 4) (body := t7B) (ρ0 := tE b rwf w (some (.loc st.length)) y (some (.tup (cols fms w))) (some (.loc (s2 ++ o1).length)) (some (.tup (cols fms w)))) (chk := fun _ => true) (s0 := s3 ++ o2) rfl (rangeD 0 (fms.length : Int)) y (fun d hd => by
    obtain ⟨i, hi, rfl⟩ := mem_rng hd
    have a1 : L2.atI (fms.map D.tup) (i : Int) = some (.tup fms[i]) := atI_nat (by simp [hi])
    have i1 := form_is_ok (fun d hd => ((hm fms[i] (List.getElem_mem _)).nm d hd).x) (by rw [(hm fms[i] (List.getElem_mem _)).len]; omega) (s3 ++ o2)
    exact ifn_ok (call_ok (cons_ok (bin_ok (v_ok rfl) (v_ok rfl) (by rw [gIx_loc _ _ lg2, a1]; rfl)) (cons_ok (bin_ok (v_ok rfl) (v_ok rfl) (by rw [gIx_loc _ _ lf2, a1]; rfl)) nil_ok)) i1))
  obtain ⟨o3, e7⟩ := form_total_tup (s3 ++ o2) hm hl6 (show w ≤ 100 by omega)
  have e8 := form_is_ok cx (by rw [cl]; omega) (s3 ++ o2 ++ o3)
  obtain ⟨o4, e9⟩ := form_total_loc (fms := []) (w := w) (lstAt_lst (app_new (st := s3 ++ o2 ++ o3) (o := .lst []))) (fun _ h => (nomatch h)) (by simp) (by omega)
  rw [cols_nil] at e9
  have e10 := form_is_ok (f := zs (w + 1)) (fun d hd => (mem_zs hd).x) (by simp; omega) (s3 ++ o2 ++ o3 ++ [.lst []] ++ o4)
  have z1 := zs_mul (w + 1) (by omega) (s3 ++ o2 ++ o3 ++ [.lst []] ++ o4)
  refine ⟨s3 ++ o2 ++ o3 ++ [.lst []] ++ o4, den_end rfl (show m__law_total_right (tE b rwf w none none none none none) st = _ from ?_)⟩
  refine seq_nx (ρ1 := tE b rwf w (some (.loc st.length)) none none none none) (st1 := st ++ [.lst []]) (set_ok (lst_ok nil_ok)) ?_
  refine seq_nx (ρ1 := tE b rwf w (some (.loc st.length)) y none none none) (st1 := s2) ?_ ?_
  · rw [sForR1_ok (j := (k : Int)) (st1 := s1) (by simp [en]) (small_nat (by omega))]
    exact e1
  refine seq_nx (ρ1 := tE b rwf w (some (.loc st.length)) y (some (.tup (cols fms w))) none none) (st1 := s2 ++ o1) (set_ok (call_ok (cons_ok (v_ok rfl) (cons_ok (v_ok rfl) nil_ok)) e2)) ?_
  refine seq_nx (ρ1 := tE b rwf w (some (.loc st.length)) y (some (.tup (cols fms w))) (some (.loc (s2 ++ o1).length)) none) (st1 := s3) (set_ok (args_ok (cons_ok (v_ok rfl) nil_ok) e3)) ?_
  refine seq_nx (ρ1 := tE b rwf w (some (.loc st.length)) y (some (.tup (cols fms w))) (some (.loc (s2 ++ o1).length)) (some (.tup (cols fms w)))) (st1 := s3 ++ o2) (set_ok (call_ok (cons_ok (v_ok rfl) (cons_ok (v_ok rfl) nil_ok)) e4)) ?_
  refine seq_nx (ρ1 := tE b rwf w (some (.loc st.length)) y (some (.tup (cols fms w))) (some (.loc (s2 ++ o1).length)) (some (.tup (cols fms w)))) (st1 := s3 ++ o2) (if_f (or_f (not_ok (v := true) (tru_ok (call_ok (cons_ok (v_ok rfl) (cons_ok (v_ok rfl) nil_ok)) e5))) (isb_ok (v := false) (bin_ok (args_ok (cons_ok (v_ok rfl) nil_ok) (gLen_loc _ lg2)) (args_ok (cons_ok (v_ok rfl) nil_ok) (gLen_loc _ lf2)) (by simp)))) rfl) ?_
  refine seq_nx (ρ1 := tE b rwf w (some (.loc st.length)) z (some (.tup (cols fms w))) (some (.loc (s2 ++ o1).length)) (some (.tup (cols fms w)))) (st1 := s3 ++ o2) ?_ ?_
  · rw [sForR1_ok (j := (fms.length : Int)) (st1 := s3 ++ o2) (by simp [gLen_loc _ lf2]) (small_nat (by omega))]
    exact e6
  refine seq_nx (ρ1 := tE b rwf w (some (.loc st.length)) z (some (.tup (cols fms w))) (some (.loc (s2 ++ o1).length)) (some (.tup (cols fms w)))) (st1 := s3 ++ o2 ++ o3) (ifn_ok (call_ok (cons_ok (call_ok (cons_ok (args_ok (cons_ok (v_ok rfl) nil_ok) (gTuple_loc lf2)) (cons_ok (v_ok rfl) nil_ok)) e7) (cons_ok (v_ok rfl) nil_ok)) e8)) ?_
  exact ret_ok (call_ok (cons_ok (call_ok (cons_ok (lst_ok nil_ok) (cons_ok (v_ok rfl) nil_ok)) e9) (cons_ok (bin_ok (tup_ok (cons_ok (tup_ok (cons_ok c_ok (cons_ok c_ok nil_ok))) nil_ok)) (bin_ok (v_ok rfl) c_ok rfl) z1) nil_ok)) e10)
/-! ### the law -/
abbrev wE (pool wide forms k row point shape : Option D) : En := [some (.loc 0), some (.loc 2), pool, wide, forms, k, row, point, shape]
noncomputable abbrev w5B : FS := sExpr (fLM gAppend (fVar 4) (fCons (fCall g__law_form (fCons (fVar 1) (fCons (fVar 2) (fCons (fVar 3) (fNil))))) (fNil)))
noncomputable abbrev w9B : FS := sSeq (sIf (fNot (fTru (fCall g__law_two_right (fCons (fVar 8) (fCons (fCall g__law_pick (fCons (fVar 1) (fCons (fVar 4) (fNil)))) (fCons (fVar 7) (fCons (fCall g__law_pick (fCons (fVar 1) (fCons (fVar 2) (fNil)))) (fNil)))))))) (sRet (fC (.bl false))) (sSkip)) (sIf (fOr (fNot (fTru (fCall g__law_kind_right (fCons (fVar 1) (fCons (fVar 8) (fCons (fVar 3) (fNil))))))) (fNot (fTru (fCall g__law_lengths_right (fCons (fVar 8) (fCons (fVar 7) (fCons (fBin gIx (fVar 2) (fC (.int 0))) (fNil)))))))) (sRet (fC (.bl false))) (sSkip))
theorem forms_loop {st s0 : S} {rw m w k : Nat} {ds : List D} (g0 : Grow (Fd w) 2 st m [] s0) (hm2 : m ≠ 2) (hsm : st.length ≤ m) (hr : Row st rw ds) (hn : rw ≠ 2) (hbl : 2 < st.length) (h0 : 0 < ds.length) (hl : ds.length < 1000) (hw : w ≤ 100) (hk : k < 100) :
    ∃ y L s2, sLoop (fun _ => true) (tgN 5) w5B (rangeD 0 (k : Int)) (wE (some (.loc rw)) (some (.int w)) (some (.loc m)) none none none none) s0 = .nx (wE (some (.loc rw)) (some (.int w)) (some (.loc m)) y none none none) s2 ∧ Grow (Fd w) 2 st m L s2 ∧ L.length = k := by
  obtain ⟨ρ', s2, e1, y, L, e2, h2, h3, g⟩ := loop_inv (chk := fun _ => true) (t := tgN 5) (body := w5B)
    (I := fun don cs ρ s => ∃ (y : Option D) (L : List D), ρ = wE (some (.loc rw)) (some (.int w)) (some (.loc m)) y none none none ∧ L.length = don.length ∧ don.length + cs.length = k ∧ Grow (Fd w) 2 st m L s)
    (fun don d cs ρ s ⟨y, L, e, hL, ht, g⟩ => by
      subst e
      rw [List.length_cons] at ht
      have rw' : Row s rw ds := ⟨g.ext.at_ hn hr.at_, hr.nm⟩
      obtain ⟨f, s', ef, hf, x⟩ := law_form_ok g.ext.bag rw' hn (Nat.lt_of_lt_of_le hbl g.ext.len) h0 hl hw
      obtain ⟨ap, g'⟩ := g.add x hm2 hsm ⟨f, rfl, hf⟩ (by omega)
      refine ⟨rfl, _, rfl, wE (some (.loc rw)) (some (.int w)) (some (.loc m)) (some d) none none none, _, .inl ?_, some d, L ++ [.tup f], rfl, by simp [hL], by simp; omega, g'⟩
      simp [lstAt_lst g.at_, ef, ap])
    (fun _ _ _ _ => rfl) (rangeD 0 (k : Int)) [] (wE (some (.loc rw)) (some (.int w)) (some (.loc m)) none none none none) s0 ⟨none, [], rfl, rfl, by rw [rangeD_len]; simp, g0⟩
  refine ⟨y, L, s2, by rw [e1, e2], g, ?_⟩
  rw [h2]
  simp [rangeD_len]
theorem main_loop {s0 : S} {rw m w : Nat} {ds fs0 pt : List D} {y r : Option D} (hb : Bag s0 2) (hr : Row s0 rw ds) (hn : rw ≠ 2) (h0 : 0 < ds.length) (hl : ds.length < 1000) (hm : s0[m]? = some (.lst fs0)) (hm2 : m ≠ 2) (hf : ∀ d ∈ fs0, Fd w d) (f0 : 0 < fs0.length) (fl : fs0.length < 1000) (hp : ∀ d ∈ pt, Nm d) (hpl : pt.length = w) (hw : w ≤ 6) :
    ∃ x s1, sLoop (fun s => decide (lstAt s m = some fs0)) (tgN 8) w9B fs0 (wE (some (.loc rw)) (some (.int w)) (some (.loc m)) y r (some (.tup pt)) none) s0 = .nx (wE (some (.loc rw)) (some (.int w)) (some (.loc m)) y r (some (.tup pt)) x) s1 ∧ Ext 2 s0 s1 := by
  obtain ⟨ρ', s1, e1, x, e2, e3, e4⟩ := loop_inv (chk := fun s => decide (lstAt s m = some fs0)) (t := tgN 8) (body := w9B)
    (I := fun don cs ρ s => ∃ x : Option D, ρ = wE (some (.loc rw)) (some (.int w)) (some (.loc m)) y r (some (.tup pt)) x ∧ Ext 2 s0 s ∧ don ++ cs = fs0)
    (fun don d cs ρ s ⟨x, e, xx, h⟩ => by
      subst e
      obtain ⟨f, rfl, Ff⟩ := hf d (by rw [← h]; simp)
      obtain ⟨d2, s2, p1, ⟨g, rfl, Fg⟩, x1⟩ := pickP xx.bag (xx.at_ hm2 hm) hm2 hf f0 fl
      obtain ⟨c, s3, p2, nc, x2⟩ := pickP (P := Nm) x1.bag ((xx.trans x1).at_ hn hr.at_) hn hr.nm h0 hl
      obtain ⟨o1, q1⟩ := two_right_ok Ff Fg hp hpl hw nc s3
      have x3 : Ext 2 s0 (s3 ++ o1) := (xx.trans (x1.trans x2)).apps o1
      obtain ⟨s4, q2, x4⟩ := kind_right_ok x3.bag Ff (show w ≤ 100 by omega)
      have ha : ds[0]? = some ds[0] := List.getElem?_eq_getElem h0
      have a0 : L2.atI ds 0 = some ds[0] := atI_nat (k := 0) ha
      obtain ⟨o2, q3⟩ := lengths_right_ok (a := ds[0]) Ff hpl (show w ≤ 100 by omega) s4
      have lr := lstAt_lst ((x3.trans x4).at_ hn hr.at_)
      refine ⟨decide_eq_true (lstAt_lst (xx.at_ hm2 hm)), _, rfl, wE (some (.loc rw)) (some (.int w)) (some (.loc m)) y r (some (.tup pt)) (some (.tup f)), s4 ++ o2, .inl ?_, some (.tup f), rfl, (x3.trans x4).apps o2, by rw [List.append_assoc]; exact h⟩
      refine seq_nx (ρ1 := wE (some (.loc rw)) (some (.int w)) (some (.loc m)) y r (some (.tup pt)) (some (.tup f))) (st1 := s3 ++ o1) (ifn_ok (call_ok (cons_ok (v_ok rfl) (cons_ok (call_ok (cons_ok (v_ok rfl) (cons_ok (v_ok rfl) nil_ok)) p1) (cons_ok (v_ok rfl) (cons_ok (call_ok (cons_ok (v_ok rfl) (cons_ok (v_ok rfl) nil_ok)) p2) nil_ok)))) q1)) ?_
      exact ifn2_ok (call_ok (cons_ok (v_ok rfl) (cons_ok (v_ok rfl) (cons_ok (v_ok rfl) nil_ok))) q2) (call_ok (cons_ok (v_ok rfl) (cons_ok (v_ok rfl) (cons_ok (bin_ok (v_ok rfl) c_ok (by rw [gIx_loc _ _ lr, a0]; rfl)) nil_ok))) q3))
    (fun don ρ s ⟨x, e, xx, h⟩ => decide_eq_true (lstAt_lst (xx.at_ hm2 hm))) fs0 [] (wE (some (.loc rw)) (some (.int w)) (some (.loc m)) y r (some (.tup pt)) none) s0 ⟨none, rfl, Ext.refl hb, rfl⟩
  exact ⟨x, s1, by rw [e1, e2], e3⟩
theorem law_true (ns : List Int) (hl : ns.length ≤ 63) : ∃ st', arN 1 (den 9 m_law) [.loc 0] [.fz (ns.map D.int)] = .ok (.bl true) st' := by
  obtain ⟨s1, e1, b1, n1⟩ := bag_ok ns hl
  obtain ⟨r, s2, e2, r0, r1, x2⟩ := take_ok b1 (m := 5) (by decide) (by decide)
  obtain ⟨k, hk⟩ : ∃ k : Nat, 2 + r = (k : Int) := ⟨(2 + r).toNat, by omega⟩
  have n2 : 2 < s2.length := Nat.lt_of_lt_of_le n1 x2.len
  obtain ⟨rw, ds, s3, e3, hr, hn, hd, x3⟩ := numbers_ok x2.bag n2 (n := k) (by omega)
  rw [← hk] at e3
  have n3 : 2 < s3.length := Nat.lt_of_lt_of_le n2 x3.len
  obtain ⟨w', s4, e4, w0, w1, x4⟩ := take_ok x3.bag (m := 7) (by decide) (by decide)
  obtain ⟨w, hw⟩ : ∃ w : Nat, w' = (w : Int) := ⟨w'.toNat, by omega⟩
  subst hw
  have n4 : 2 < s4.length := Nat.lt_of_lt_of_le n3 x4.len
  have r4 : Row s4 rw ds := ⟨x4.at_ hn hr.at_, hr.nm⟩
  obtain ⟨j, s5, e5, j0, j1, x5⟩ := take_ok (st := s4 ++ [.lst []]) (b := 2) ((Ext.refl x4.bag).app _).bag (m := 5) (by decide) (by decide)
  obtain ⟨kf, hkf⟩ : ∃ k : Nat, 1 + j = (k : Int) := ⟨(1 + j).toNat, by omega⟩
  have g0 : Grow (Fd w) 2 s4 s4.length [] s5 := ⟨x5.at_ (by omega) app_new, (fun _ h => by cases h), ((Ext.refl x4.bag).app _).trans x5⟩
  obtain ⟨y, fs0, s6, e6, g6, hf6⟩ := forms_loop (k := kf) g0 (by omega) (Nat.le_refl _) r4 hn n4 (by omega) (by omega) (show w ≤ 100 by omega) (by omega)
  have r6 : Row s6 rw ds := ⟨g6.ext.at_ hn r4.at_, hr.nm⟩
  have n6 : 2 < s6.length := Nat.lt_of_lt_of_le n4 g6.ext.len
  have g7 : Grow Nm 2 s6 s6.length [] (s6 ++ [.lst []]) := ⟨app_new, (fun _ h => by cases h), (Ext.refl g6.ext.bag).app _⟩
  obtain ⟨y2, pt, s8, e8, g8, hp8⟩ := picks_ok (i := 5) (r := 6) (src := 2) (bv := 1) (ρ0 := wE (some (.loc rw)) (some (.int w)) (some (.loc s4.length)) none (some (.loc s6.length)) none none) (x0 := y) (k := w) (fun _ => rfl) (fun _ => rfl) (fun _ => rfl) g7 (by omega) (Nat.le_refl _) r6.at_ hn hr.nm (by omega) (by omega) (by simp; omega)
  rw [List.length_nil, Nat.zero_add] at hp8
  have r8 : Row s8 rw ds := ⟨g8.ext.at_ hn r6.at_, hr.nm⟩
  have n8 : 2 < s8.length := Nat.lt_of_lt_of_le n6 g8.ext.len
  have m8 : s8[s4.length]? = some (.lst fs0) := g8.ext.at_ (by omega) g6.at_
  obtain ⟨x, s9, e9, x9⟩ := main_loop (y := y2) (r := some (.loc s6.length)) g8.ext.bag r8 hn (by omega) (by omega) m8 (by omega) g6.nm (by omega) (by omega) g8.nm hp8 (show w ≤ 6 by omega)
  obtain ⟨a, s10, e10, na, x10⟩ := pickP (P := Nm) x9.bag (x9.at_ hn r8.at_) hn hr.nm (by omega) (by omega)
  obtain ⟨o11, e11⟩ := plain_right_ok na g8.nm hp8 (show w ≤ 6 by omega) s10
  have x11 : Ext 2 s8 (s10 ++ o11) := (x9.trans x10).apps o11
  obtain ⟨s12, e12⟩ := total_right_ok x11.bag (x11.at_ (by omega) m8) (by omega) (Nat.lt_of_lt_of_le n8 x11.len) g6.nm (by omega) (by omega) (show w ≤ 6 by omega)
  refine ⟨s12, den_end rfl (show m_law (wE none none none none none none none |>.set 1 none) [.fz (ns.map D.int)] = _ from ?_)⟩
  refine seq_nx (ρ1 := wE none none none none none none none) (st1 := s1) (set_ok (call_ok (cons_ok (v_ok rfl) nil_ok) e1)) ?_
  refine seq_nx (ρ1 := wE (some (.loc rw)) none none none none none none) (st1 := s3) (set_ok (call_ok (cons_ok (v_ok rfl) (cons_ok (bin_ok c_ok (call_ok (cons_ok (v_ok rfl) (cons_ok c_ok nil_ok)) e2) rfl) nil_ok)) e3)) ?_
  refine seq_nx (ρ1 := wE (some (.loc rw)) (some (.int w)) none none none none none) (st1 := s4) (set_ok (call_ok (cons_ok (v_ok rfl) (cons_ok c_ok nil_ok)) e4)) ?_
  refine seq_nx (ρ1 := wE (some (.loc rw)) (some (.int w)) (some (.loc s4.length)) none none none none) (st1 := s4 ++ [.lst []]) (set_ok (lst_ok nil_ok)) ?_
  refine seq_nx (ρ1 := wE (some (.loc rw)) (some (.int w)) (some (.loc s4.length)) y none none none) (st1 := s6) ?_ ?_
  · rw [sForR1_ok (j := (kf : Int)) (st1 := s5) (by simp [e5, hkf]) (small_nat (by omega))]
    exact e6
  refine seq_nx (ρ1 := wE (some (.loc rw)) (some (.int w)) (some (.loc s4.length)) y (some (.loc s6.length)) none none) (st1 := s6 ++ [.lst []]) (set_ok (lst_ok nil_ok)) ?_
  refine seq_nx (ρ1 := wE (some (.loc rw)) (some (.int w)) (some (.loc s4.length)) y2 (some (.loc s6.length)) none none) (st1 := s8) ?_ ?_
  · rw [sForR1_ok (j := (w : Int)) (st1 := s6 ++ [.lst []]) (by simp) (small_nat (by omega))]
    exact e8
  refine seq_nx (ρ1 := wE (some (.loc rw)) (some (.int w)) (some (.loc s4.length)) y2 (some (.loc s6.length)) (some (.tup pt)) none) (st1 := s8) (set_ok (args_ok (cons_ok (v_ok rfl) nil_ok) (gTuple_loc (lstAt_lst g8.at_)))) ?_
  refine seq_nx (ρ1 := wE (some (.loc rw)) (some (.int w)) (some (.loc s4.length)) y2 (some (.loc s6.length)) (some (.tup pt)) x) (st1 := s9) ?_ ?_
  · rw [sFor_loc (n := s4.length) (st1 := s8) (ds := fs0) (v_ok rfl) (lstAt_lst m8)]
    exact e9
  refine seq_nx (ρ1 := wE (some (.loc rw)) (some (.int w)) (some (.loc s4.length)) y2 (some (.loc s6.length)) (some (.tup pt)) x) (st1 := s10 ++ o11) (ifn_ok (call_ok (cons_ok (call_ok (cons_ok (v_ok rfl) (cons_ok (v_ok rfl) nil_ok)) e10) (cons_ok (v_ok rfl) nil_ok)) e11)) ?_
  exact ret_ok (call_ok (cons_ok (v_ok rfl) (cons_ok (v_ok rfl) (cons_ok (v_ok rfl) nil_ok))) e12)
end K03

set_option Elab.async false
set_option linter.all false
set_option maxRecDepth 100000
set_option maxHeartbeats 0
open PySem PySem.W PySem.Calls PyProof.Rows
theorem PySem.Challenge.cw_pagefit_k03_forms_at_points_holds : PySem.Challenge.rw_pagefit_k03_forms_at_points.Holds := by
  w_on; o_law
  refine HandSHeadRun.head_imp (r := OpenLaw.row PySem.Challenge.rw_pagefit_k03_forms_at_points) (q := view (OpenLaw.row PySem.Challenge.rw_pagefit_k03_forms_at_points).prog [0, 58]) (H := K03.hk) (ob := K03.ob) (M := 6000) (loose := K03.loose) (d := HandSHeadRun.topDef (OpenLaw.row PySem.Challenge.rw_pagefit_k03_forms_at_points).prog 58) (kwd := []) K03.ob_eq
    K03.run (by kernel_rfl) (by kernel_rfl) (by kernel_rfl) (by rfl) (by first | assumption | decide +kernel) (by decide +kernel) ⟨rfl, rfl, rfl, rfl, rfl, by decide +kernel⟩ ?hw ?hc
  case hw => w_witness2
  case hc =>
    refine MP.walk_ofM (l := PySem.Challenge.rw_pagefit_k03_forms_at_points) (n := 63) (k := 7) (x := "script") rfl (by decide) (by kernel_rfl) ⟨rfl, by decide, by decide⟩ ?F
    intro w mg fa h Y Gm hmg0
    obtain ⟨K, KX, c⟩ := Y
    have hmg : mg ("law" : PySem.Str) = some (.ref fa) := by
      have e : (HandSHeadRun.topDef (OpenLaw.row PySem.Challenge.rw_pagefit_k03_forms_at_points).prog 58).name = ("law" : PySem.Str) := by kernel_rfl
      rw [← e]
      exact hmg0
    obtain ⟨fd, hb, hF⟩ := K03.law_fn (w := w) KX Gm hmg c
    exact ⟨K, fd, _, KX, hb, fun H a ns hl hO hS => MP.sp_law 63 K03.law_true H a ns hl hO hS, hF⟩

