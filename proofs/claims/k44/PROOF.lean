import PyProof.Rows.All
import PySem.Challenge.RW_inkwright_k44_whole_codes_that_are_check
import Wide.All
import OpenK.AllK
import Wide.FinOn
import HandS.ForMost
import HandS.Wide
import HandS.EndBits
import HandS.Flow
import HandS.IsInst
import HandS.Walk
import HandS.SortOrd
import HandS.StrMore
import HandS.HeadEnd
import HandS.DictComp
import HandS.Text
import HandS.More
import KE.DataEq
import PyProof.StrBlock2
import HandS.SortInts
import HandS.Conv
import HandS.Style
import HandS.SortRule
import HandS.SetFor
import HandS.Replace
import HandS.Words
import HandS.Gcd
import HandS.Deep
import KE.SortData
import KE.DataFind
import KE.DataMinMax
set_option Elab.async false
set_option linter.all false
set_option maxRecDepth 100000
set_option maxHeartbeats 4000000
/-! PL1: pure data over the abstract heap; slots that own their lists; readings over pure environments. -/
namespace PL
open PySem PySem.Spec PyProof.Rows L2

/-! ### pure data -/
abbrev DK := Sum Int (List Nat)
instance instDKEq : DecidableEq DK := fun a b => match a, b with
  | .inl i, .inl j => if h : i = j then .isTrue (by rw [h]) else .isFalse fun z => h (Sum.inl.inj z)
  | .inr i, .inr j => if h : i = j then .isTrue (by rw [h]) else .isFalse fun z => h (Sum.inr.inj z)
  | .inl _, .inr _ => .isFalse fun z => nomatch z
  | .inr _, .inl _ => .isFalse fun z => nomatch z
def toStr (l : List Nat) : Str := ⟨l.toArray⟩
def kOf : DK → Key
  | .inl i => .inl i
  | .inr l => .inr (toStr l)
inductive D where
  | non
  | bl (b : Bool)
  | int (i : Int)
  | str (l : List Nat)
  | lst (ds : List D)
  | tup (ds : List D)
  | lck (ds : List D)
  | dct (ks : List DK) (vs : List D)

theorem toStr_inj {a b : List Nat} (h : toStr a = toStr b) : a = b := by
  unfold toStr at h
  injection h with h
  simpa using congrArg Array.toList h
theorem toStr_len (a : List Nat) : (toStr a).length = a.length := by simp [toStr, Str.length]
theorem toStr_list (a : List Nat) : (toStr a).cps.toList = a := by simp [toStr]
theorem toStr_self (z : Str) : toStr z.cps.toList = z := by cases z; simp [toStr]
theorem toStr_app (a b : List Nat) : toStr a ++ toStr b = toStr (a ++ b) := by
  show Str.mk ((toStr a).cps ++ (toStr b).cps) = _
  simp [toStr]
theorem kOf_inj {a b : DK} (h : kOf a = kOf b) : a = b := by
  cases a <;> cases b <;> simp only [kOf] at h
  · injection h with h; rw [h]
  · cases h
  · cases h
  · injection h with h; rw [toStr_inj h]

section
variable (K : PySem.W.Frag)
mutual
/-- v stands for d in H -/
def R (H : Hp) : D → V → Prop
  | .non, v => v = .non
  | .bl b, v => v = .bl b
  | .int i, v => v = .int i
  | .str l, v => v = .str (toStr l)
  | .lst ds, v => ∃ a xs, v = .ref a ∧ H a = some (.lst xs) ∧ RA H ds xs
  | .tup ds, v => ∃ a xs, v = .ref a ∧ SqT K H a xs ∧ RA H ds xs
  | .lck ds, v => ∃ a xs, v = .ref a ∧ SqL K H a xs ∧ RA H ds xs
  | .dct ks vs, v => ∃ a kvs, v = .ref a ∧ H a = some (.dK kvs) ∧ kvs.map (·.1) = ks.map kOf ∧ RA H vs (kvs.map (·.2))
def RA (H : Hp) : List D → List V → Prop
  | [], vs => vs = []
  | d :: ds, vs => ∃ v r, vs = v :: r ∧ R H d v ∧ RA H ds r
end
end

section
variable {K : PySem.W.Frag} {H H' : Hp}
theorem Same.seqT (e : Same H H') {a : Addr} {xs : List V} (h : SqT K H a xs) : SqT K H' a xs := by
  rcases h with (h | ⟨o, h⟩) | h
  · exact .inl (.inl (e _ _ h))
  · exact .inl (.inr ⟨o, e _ _ h⟩)
  · exact .inr h
mutual
theorem R.mono (e : Same H H') : ∀ (d : D) (v : V), R K H d v → R K H' d v
  | .non, _, h => h
  | .bl _, _, h => h
  | .int _, _, h => h
  | .str _, _, h => h
  | .lst ds, _, h => by
    obtain ⟨a, xs, e1, h1, h2⟩ := h
    exact ⟨a, xs, e1, e _ _ h1, RA.mono e ds _ h2⟩
  | .tup ds, _, h => by
    obtain ⟨a, xs, e1, h1, h2⟩ := h
    exact ⟨a, xs, e1, Same.seqT e h1, RA.mono e ds _ h2⟩
  | .lck ds, _, h => by
    obtain ⟨a, xs, e1, h1, h2⟩ := h
    exact ⟨a, xs, e1, L2.Same.seq e h1, RA.mono e ds _ h2⟩
  | .dct ks vs, _, h => by
    obtain ⟨a, kvs, e1, h1, h2, h3⟩ := h
    exact ⟨a, kvs, e1, e _ _ h1, h2, RA.mono e vs _ h3⟩
theorem RA.mono (e : Same H H') : ∀ (ds : List D) (vs : List V), RA K H ds vs → RA K H' ds vs
  | [], _, h => h
  | d :: ds, _, h => by
    obtain ⟨v, r, e1, h1, h2⟩ := h
    exact ⟨v, r, e1, R.mono e d v h1, RA.mono e ds r h2⟩
end
theorem RA.len : ∀ {ds : List D} {vs : List V}, RA K H ds vs → ds.length = vs.length
  | [], vs, h => by
    have e : vs = [] := h
    subst e
    rfl
  | d :: ds, _, h => by
    obtain ⟨v, r, e1, h1, h2⟩ := h
    rw [e1, List.length_cons, List.length_cons, h2.len]
theorem RA.iff : ∀ {ds : List D} {vs : List V}, RA K H ds vs ↔ ds.length = vs.length ∧ ∀ (i : Nat) (d : D) (v : V), ds[i]? = some d → vs[i]? = some v → R K H d v
  | [], vs => by
    refine ⟨fun h => ?_, fun h => ?_⟩
    · have e : vs = [] := h
      subst e
      exact ⟨rfl, fun i d v h => by simp at h⟩
    · show vs = []
      exact List.length_eq_zero_iff.mp h.1.symm
  | d :: ds, vs => by
    refine ⟨fun h => ?_, fun h => ?_⟩
    · obtain ⟨v, r, e1, h1, h2⟩ := h
      subst e1
      obtain ⟨hl, hi⟩ := RA.iff.mp h2
      refine ⟨by simp [hl], fun i d' v' q1 q2 => ?_⟩
      cases i with
      | zero =>
        simp at q1 q2
        subst q1; subst q2
        exact h1
      | succ i => exact hi i d' v' (by simpa using q1) (by simpa using q2)
    · cases vs with
      | nil => simp at h
      | cons v r => exact ⟨v, r, rfl, h.2 0 d v rfl rfl, RA.iff.mpr ⟨by simpa using h.1, fun i d' v' q1 q2 => h.2 (i + 1) d' v' (by simpa using q1) (by simpa using q2)⟩⟩
theorem RA.get {ds : List D} {vs : List V} (h : RA K H ds vs) {i : Nat} {d : D} (e : ds[i]? = some d) : ∃ v, vs[i]? = some v ∧ R K H d v := by
  have hl := h.len
  obtain ⟨hi, _⟩ := List.getElem?_eq_some_iff.mp e
  have hv : i < vs.length := by omega
  exact ⟨vs[i], List.getElem?_eq_getElem hv, (RA.iff.mp h).2 i d _ e (List.getElem?_eq_getElem hv)⟩
theorem RA.getV {ds : List D} {vs : List V} (h : RA K H ds vs) {i : Nat} {v : V} (e : vs[i]? = some v) : ∃ d, ds[i]? = some d ∧ R K H d v := by
  have hl := h.len
  obtain ⟨hi, _⟩ := List.getElem?_eq_some_iff.mp e
  have hv : i < ds.length := by omega
  exact ⟨ds[i], List.getElem?_eq_getElem hv, (RA.iff.mp h).2 i _ v (List.getElem?_eq_getElem hv) e⟩
theorem RA.app : ∀ {ds : List D} {vs : List V} {ds' : List D} {vs' : List V}, RA K H ds vs → RA K H ds' vs' → RA K H (ds ++ ds') (vs ++ vs')
  | [], _, _, _, h, h' => by
    rw [show _ = _ from h]
    exact h'
  | d :: ds, _, _, _, h, h' => by
    obtain ⟨v, r, e1, h1, h2⟩ := h
    subst e1
    exact ⟨v, r ++ _, rfl, h1, h2.app h'⟩
theorem RA.one {d : D} {v : V} (h : R K H d v) : RA K H [d] [v] := ⟨v, [], rfl, h, rfl⟩
theorem RA.take {ds : List D} {vs : List V} (n : Nat) (h : RA K H ds vs) : RA K H (ds.take n) (vs.take n) := by
  obtain ⟨hl, hi⟩ := RA.iff.mp h
  refine RA.iff.mpr ⟨by simp [hl], fun i d v q1 q2 => ?_⟩
  rw [List.getElem?_take] at q1 q2
  split at q1
  · rename_i hn
    rw [if_pos hn] at q2
    exact hi i d v q1 q2
  · cases q1
theorem RA.drop {ds : List D} {vs : List V} (n : Nat) (h : RA K H ds vs) : RA K H (ds.drop n) (vs.drop n) := by
  obtain ⟨hl, hi⟩ := RA.iff.mp h
  refine RA.iff.mpr ⟨by simp [hl], fun i d v q1 q2 => ?_⟩
  rw [List.getElem?_drop] at q1 q2
  exact hi _ d v q1 q2
theorem RA.set {ds : List D} {vs : List V} {d : D} {v : V} (i : Nat) (h : RA K H ds vs) (r : R K H d v) : RA K H (ds.set i d) (vs.set i v) := by
  obtain ⟨hl, hi⟩ := RA.iff.mp h
  refine RA.iff.mpr ⟨by simp [hl], fun j d' v' q1 q2 => ?_⟩
  rw [List.getElem?_set] at q1 q2
  by_cases hj : i = j
  · rw [if_pos hj] at q1 q2
    split at q1
    · rename_i hn
      rw [if_pos (by omega)] at q2
      cases q1; cases q2
      exact r
    · cases q1
  · rw [if_neg hj] at q1 q2
    exact hi j d' v' q1 q2
theorem RA.reverse {ds : List D} {vs : List V} (h : RA K H ds vs) : RA K H ds.reverse vs.reverse := by
  induction ds generalizing vs with
  | nil =>
    rw [show vs = [] from h]
    rfl
  | cons d ds ih =>
    obtain ⟨v, r, e1, h1, h2⟩ := h
    subst e1
    rw [List.reverse_cons, List.reverse_cons]
    exact (ih h2).app (RA.one h1)
theorem RA.ints : ∀ {ns : List Int} {vs : List V}, RA K H (ns.map D.int) vs ↔ vs = ns.map V.int
  | [], vs => Iff.rfl
  | n :: ns, vs => by
    refine ⟨fun h => ?_, fun h => ?_⟩
    · obtain ⟨v, r, e1, h1, h2⟩ := h
      rw [e1, show v = V.int n from h1, RA.ints.mp h2]
      rfl
    · subst h
      exact ⟨_, _, rfl, rfl, RA.ints.mpr rfl⟩
theorem RA.bls : ∀ {ns : List Bool} {vs : List V}, RA K H (ns.map D.bl) vs ↔ vs = ns.map V.bl
  | [], vs => Iff.rfl
  | n :: ns, vs => by
    refine ⟨fun h => ?_, fun h => ?_⟩
    · obtain ⟨v, r, e1, h1, h2⟩ := h
      rw [e1, show v = V.bl n from h1, RA.bls.mp h2]
      rfl
    · subst h
      exact ⟨_, _, rfl, rfl, RA.bls.mpr rfl⟩
theorem RA.strs : ∀ {ns : List (List Nat)} {vs : List V}, RA K H (ns.map D.str) vs ↔ vs = (ns.map toStr).map V.str
  | [], vs => Iff.rfl
  | n :: ns, vs => by
    refine ⟨fun h => ?_, fun h => ?_⟩
    · obtain ⟨v, r, e1, h1, h2⟩ := h
      rw [e1, show v = V.str (toStr n) from h1, RA.strs.mp h2]
      rfl
    · subst h
      exact ⟨_, _, rfl, rfl, RA.strs.mpr rfl⟩
theorem RA.rep {ds : List D} {vs : List V} (h : RA K H ds vs) : ∀ k : Nat, RA K H (List.replicate k ds).flatten (List.replicate k vs).flatten
  | 0 => rfl
  | k + 1 => by
    rw [List.replicate_succ, List.replicate_succ, List.flatten_cons, List.flatten_cons]
    exact h.app (RA.rep h k)
theorem RA.dropLast {ds : List D} {vs : List V} (h : RA K H ds vs) : RA K H ds.dropLast vs.dropLast := by
  rw [List.dropLast_eq_take, List.dropLast_eq_take, h.len]
  exact h.take _
theorem RA.eraseIdx {ds : List D} {vs : List V} (i : Nat) (h : RA K H ds vs) : RA K H (ds.eraseIdx i) (vs.eraseIdx i) := by
  rw [List.eraseIdx_eq_take_drop_succ, List.eraseIdx_eq_take_drop_succ]
  exact (h.take _).app (h.drop _)
end

/-! ### what is private is hidden from the others -/
open Classical in
noncomputable def mask (H : Hp) (P : Addr → Prop) : Hp := fun a => if P a then none else H a
theorem mask_yes {H : Hp} {P : Addr → Prop} {a : Addr} (h : ¬ P a) : mask H P a = H a := by unfold mask; rw [if_neg h]
theorem mask_no {H : Hp} {P : Addr → Prop} {a : Addr} (h : P a) : mask H P a = none := by unfold mask; rw [if_pos h]
theorem mask_of {H : Hp} {P : Addr → Prop} {a : Addr} {o : HO} (h : mask H P a = some o) : ¬ P a ∧ H a = some o := by
  by_cases q : P a
  · rw [mask_no q] at h; cases h
  · rw [mask_yes q] at h; exact ⟨q, h⟩
theorem mask_same (H : Hp) (P : Addr → Prop) : Same (mask H P) H := fun _ _ h => (mask_of h).2
theorem mask_le {H H' : Hp} {P P' : Addr → Prop} (h : ∀ a o, ¬ P a → H a = some o → ¬ P' a ∧ H' a = some o) : Same (mask H P) (mask H' P') := fun a o q => by
  obtain ⟨q1, q2⟩ := mask_of q
  obtain ⟨h1, h2⟩ := h a o q1 q2
  rw [mask_yes h1]; exact h2

/-! ### slots -/
inductive Ow where
  | lst (ds : List D)
  | dct (ks : List DK) (vs : List D)
  | pool (n : Nat)
inductive Sl where
  | un
  | sh (d : D)
  | own (o : Ow)
  | io (o : Ow)
def Sl.ow? : Sl → Option Ow
  | .own o => some o
  | .io o => some o
  | _ => none
/-- what an expression gives: shared data, a new object of nobody, or the value of a slot -/
inductive Rv where
  | sh (d : D)
  | own (o : Ow)
  | bor (i : Nat)
abbrev Ev := List Sl

/-- a pool of draws: the script, how many were gone on to, the rest, how many turns; n bounds both counts -/
def PoolAt (K : PySem.W.Frag) (H : Hp) (n : Nat) (xs : List V) : Prop :=
  ∃ (a : Addr) (ns : List Int) (i r t : Int), xs = [.ref a, .int i, .int r, .int t] ∧ SqL K H a (ns.map V.int) ∧ ns.length ≤ 63 ∧ (∀ z ∈ ns, Builtin.Int.intBits z ≤ 1048576) ∧
    0 ≤ i ∧ i ≤ n ∧ 0 ≤ t ∧ t ≤ n ∧ 0 ≤ r
def OwnAt (K : PySem.W.Frag) (Hs : Hp) (ho : Option HO) : Ow → Prop
  | .lst ds => ∃ xs, ho = some (.lst xs) ∧ RA K Hs ds xs
  | .dct ks vs => ∃ kvs, ho = some (.dK kvs) ∧ kvs.map (·.1) = ks.map kOf ∧ RA K Hs vs (kvs.map (·.2))
  | .pool n => ∃ xs, ho = some (.lst xs) ∧ PoolAt K Hs n xs
theorem OwnAt.mono {K : PySem.W.Frag} {H H' : Hp} {ho : Option HO} (e : Same H H') : ∀ {o : Ow}, OwnAt K H ho o → OwnAt K H' ho o
  | .lst _, ⟨xs, h1, h2⟩ => ⟨xs, h1, RA.mono e _ _ h2⟩
  | .dct _ _, ⟨xs, h1, h2, h3⟩ => ⟨xs, h1, h2, RA.mono e _ _ h3⟩
  | .pool _, ⟨xs, h1, a, ns, i, r, t, h2, h3, h4⟩ => ⟨xs, h1, a, ns, i, r, t, h2, L2.Same.seq e h3, h4⟩
theorem OwnAt.some {K : PySem.W.Frag} {H : Hp} {ho : Option HO} : ∀ {o : Ow}, OwnAt K H ho o → ∃ h, ho = Option.some h
  | .lst _, ⟨_, h1, _⟩ => ⟨_, h1⟩
  | .dct _ _, ⟨_, h1, _⟩ => ⟨_, h1⟩
  | .pool _, ⟨_, h1, _⟩ => ⟨_, h1⟩

def SlOk (K : PySem.W.Frag) (P : Addr → Prop) (H : Hp) (ov : Option (Option V)) : Sl → Prop
  | .un => True
  | .sh d => ∃ v, ov = some (some v) ∧ R K (mask H P) d v
  | .own o => ∃ a, ov = some (some (.ref a)) ∧ P a ∧ OwnAt K (mask H P) (H a) o
  | .io o => ∃ a, ov = some (some (.ref a)) ∧ P a ∧ OwnAt K (mask H P) (H a) o
def OwnI (env : Ev) (σ : L2.St) (a : Addr) (i : Nat) : Prop := ∃ s o, env[i]? = some s ∧ s.ow? = some o ∧ σ[i]? = some (some (.ref a))
def OwnA (env : Ev) (σ : L2.St) (a : Addr) : Prop := ∃ i, OwnI env σ a i

structure Sim (K : PySem.W.Frag) (P : Addr → Prop) (env : Ev) (σ : L2.St) (H : Hp) : Prop where
  len : env.length = σ.length
  dom : ∀ a, P a → H a ≠ none
  slot : ∀ (i : Nat) (s : Sl), env[i]? = some s → SlOk K P H (σ[i]?) s
  inj : ∀ i j a, OwnI env σ a i → OwnI env σ a j → i = j
structure Step (P : Addr → Prop) (env : Ev) (σ : L2.St) (H : Hp) (P' : Addr → Prop) (env' : Ev) (σ' : L2.St) (H' : Hp) : Prop where
  keep : ∀ a o, H a = some o → ¬ OwnA env σ a → H' a = some o
  priv : ∀ a, H a ≠ none → ¬ OwnA env σ a → (P' a ↔ P a)
  own : ∀ a, OwnA env' σ' a → OwnA env σ a ∨ H a = none
  there : ∀ a, H a ≠ none → H' a ≠ none
  io : ∀ (i : Nat) (o' : Ow) (a : Addr), env'[i]? = some (.io o') → σ'[i]? = some (some (V.ref a)) → ∃ o, env[i]? = some (.io o) ∧ σ[i]? = some (some (V.ref a))

section
variable {K : PySem.W.Frag} {P P1 P2 P' : Addr → Prop} {env env1 env2 env' : Ev} {σ σ1 σ2 σ' : L2.St} {H H1 H2 H' : Hp}
theorem SlOk.at {i : Nat} {s : Sl} {o : Ow} (h : SlOk K P H (σ[i]?) s) (e : s.ow? = some o) : ∃ a, σ[i]? = some (some (V.ref a)) ∧ P a ∧ OwnAt K (mask H P) (H a) o := by
  cases s with
  | un => cases e
  | sh _ => cases e
  | own _ => cases e; exact h
  | io _ => cases e; exact h
theorem Sim.ownP (S : Sim K P env σ H) {a : Addr} (h : OwnA env σ a) : P a := by
  obtain ⟨i, s, o, h1, h2, h3⟩ := h
  obtain ⟨b, q1, q2, _⟩ := (S.slot i s h1).at h2
  rw [h3] at q1
  cases q1
  exact q2
theorem Sim.nown (S : Sim K P env σ H) {a : Addr} (h : ¬ P a) : ¬ OwnA env σ a := fun q => h (S.ownP q)
theorem Step.refl : Step P env σ H P env σ H := ⟨fun _ _ h _ => h, fun _ _ _ => Iff.rfl, fun _ h => .inl h, fun _ h => h, fun _ _ _ h1 h2 => ⟨_, h1, h2⟩⟩
theorem Step.trans (a : Step P env σ H P1 env1 σ1 H1) (b : Step P1 env1 σ1 H1 P2 env2 σ2 H2) : Step P env σ H P2 env2 σ2 H2 := by
  have nown : ∀ c o, H c = some o → ¬ OwnA env σ c → ¬ OwnA env1 σ1 c := fun c o h n q => by
    rcases a.own c q with z | z
    · exact n z
    · rw [h] at z; cases z
  refine ⟨fun c o h n => b.keep c o (a.keep c o h n) (nown c o h n), fun c h n => ?_, fun c q => ?_, fun c h => b.there c (a.there c h), fun i o' c h1 h2 => let ⟨o1, q1, q2⟩ := b.io i o' c h1 h2; a.io i o1 c q1 q2⟩
  · obtain ⟨o, ho⟩ := Option.ne_none_iff_exists'.mp h
    exact (b.priv c (a.there c h) (nown c o ho n)).trans (a.priv c h n)
  · rcases b.own c q with z | z
    · exact a.own c z
    · refine .inr ?_
      cases e : H c with
      | none => rfl
      | some o => exact absurd z (a.there c (by rw [e]; simp))
/-- what is shared stays -/
theorem Step.masks (S : Sim K P env σ H) (t : Step P env σ H P' env' σ' H') : Same (mask H P) (mask H' P') := mask_le fun a o n h => by
  have q := S.nown n
  exact ⟨fun z => n ((t.priv a (by rw [h]; simp) q).mp z), t.keep a o h q⟩
theorem Sim.domN (S : Sim K P env σ H) {a : Addr} (h : H a = none) : ¬ P a := fun q => S.dom a q h
end

/-! ### results of operations that only make new objects -/
def NewRes (K : PySem.W.Frag) (P : Addr → Prop) (H : Hp) (P' : Addr → Prop) (H' : Hp) (r : Rv) (w : V) : Prop :=
  Same H H' ∧ match r with
    | .sh d => P' = P ∧ R K (mask H' P') d w
    | .own o => ∃ a, w = .ref a ∧ H a = none ∧ P' = (fun b => P b ∨ b = a) ∧ OwnAt K (mask H' P') (H' a) o
    | .bor _ => False
def RvOk (K : PySem.W.Frag) (P : Addr → Prop) (env : Ev) (σ : L2.St) (H : Hp) : Rv → V → Prop
  | .sh d, v => R K (mask H P) d v
  | .own o, v => ∃ a, v = .ref a ∧ P a ∧ ¬ OwnA env σ a ∧ OwnAt K (mask H P) (H a) o
  | .bor i, v => σ[i]? = some (some v) ∧ env[i]? ≠ some .un
section
variable {K : PySem.W.Frag} {P P' : Addr → Prop} {env env' : Ev} {σ σ' : L2.St} {H H' : Hp}
/-- slots where nothing but new objects came -/
theorem Sim.grow (S : Sim K P env σ H) (sm : Same H H') (hP : ∀ a, H a ≠ none → (P' a ↔ P a)) (hd : ∀ a, P' a → H' a ≠ none) : Sim K P' env σ H' ∧ Step P env σ H P' env σ H' := by
  have th : ∀ a, H a ≠ none → H' a ≠ none := fun a h => by
    obtain ⟨o, ho⟩ := Option.ne_none_iff_exists'.mp h
    rw [sm a o ho]; simp
  have st : Step P env σ H P' env σ H' := ⟨fun a o h _ => sm a o h, fun a h _ => hP a h, fun a h => .inl h, th, fun _ _ _ h1 h2 => ⟨_, h1, h2⟩⟩
  have mm : Same (mask H P) (mask H' P') := st.masks S
  have sl : ∀ (i : Nat) (o : Ow), (∃ a, σ[i]? = some (some (V.ref a)) ∧ P a ∧ OwnAt K (mask H P) (H a) o) → ∃ a, σ[i]? = some (some (V.ref a)) ∧ P' a ∧ OwnAt K (mask H' P') (H' a) o := fun i o ⟨a, h1, h2, h3⟩ => by
    obtain ⟨h, eh⟩ := h3.some
    exact ⟨a, h1, (hP a (S.dom a h2)).mpr h2, by rw [sm a h eh, ← eh]; exact h3.mono mm⟩
  refine ⟨⟨S.len, hd, fun i s e => ?_, S.inj⟩, st⟩
  have q := S.slot i s e
  cases s with
  | un => trivial
  | sh d => obtain ⟨v, h1, h2⟩ := q; exact ⟨v, h1, R.mono mm _ _ h2⟩
  | own o => exact sl i o q
  | io o => exact sl i o q
theorem NewRes.fin (S : Sim K P env σ H) {r : Rv} {w : V} (n : NewRes K P H P' H' r w) : Sim K P' env σ H' ∧ Step P env σ H P' env σ H' ∧ RvOk K P' env σ H' r w := by
  obtain ⟨sm, n⟩ := n
  cases r with
  | sh d =>
    obtain ⟨rfl, n⟩ := n
    obtain ⟨h1, h2⟩ := S.grow (P' := P') sm (fun _ _ => Iff.rfl) fun a h => by
      obtain ⟨o, ho⟩ := Option.ne_none_iff_exists'.mp (S.dom a h)
      rw [sm a o ho]; simp
    exact ⟨h1, h2, n⟩
  | own o =>
    obtain ⟨a, rfl, ha, rfl, n⟩ := n
    obtain ⟨h1, h2⟩ := S.grow (P' := fun b => P b ∨ b = a) sm (fun b hb => ⟨fun z => z.elim id fun e => absurd (e ▸ ha) hb, .inl⟩) fun b h => by
      rcases h with h | h
      · obtain ⟨o, ho⟩ := Option.ne_none_iff_exists'.mp (S.dom b h)
        rw [sm b o ho]; simp
      · obtain ⟨h', e⟩ := n.some
        rw [h, e]; simp
    exact ⟨h1, h2, a, rfl, .inr rfl, fun z => S.domN ha (S.ownP z), n⟩
  | bor i => exact n.elim
theorem RvOk.step (S : Sim K P env σ H) (t : Step P env σ H P' env' σ H') (hu : ∀ i : Nat, env[i]? ≠ some Sl.un → env'[i]? ≠ some Sl.un) : ∀ {r : Rv} {v : V}, (∀ o, r ≠ .own o) → RvOk K P env σ H r v → RvOk K P' env' σ H' r v
  | .sh _, _, _, h => R.mono (t.masks S) _ _ h
  | .bor _, _, _, h => ⟨h.1, hu _ h.2⟩
  | .own o, _, n, _ => absurd rfl (n o)
end
end PL
namespace PL
open PySem PySem.Spec PyProof.Rows L2

/-! ### top-level reading -/
/-- v stands for d, its own object in H (a list, a dict), what lies within in Hs -/
def Rt (K : PySem.W.Frag) (Hs H : Hp) : D → V → Prop
  | .lst ds, v => ∃ a xs, v = .ref a ∧ H a = some (.lst xs) ∧ RA K Hs ds xs
  | .dct ks vs, v => ∃ a kvs, v = .ref a ∧ H a = some (.dK kvs) ∧ kvs.map (·.1) = ks.map kOf ∧ RA K Hs vs (kvs.map (·.2))
  | .non, v => v = .non
  | .bl b, v => v = .bl b
  | .int i, v => v = .int i
  | .str l, v => v = .str (toStr l)
  | .tup ds, v => ∃ a xs, v = .ref a ∧ SqT K Hs a xs ∧ RA K Hs ds xs
  | .lck ds, v => ∃ a xs, v = .ref a ∧ SqL K Hs a xs ∧ RA K Hs ds xs
theorem R.top {K : PySem.W.Frag} {Hs H : Hp} (e : Same Hs H) : ∀ {d : D} {v : V}, R K Hs d v → Rt K Hs H d v
  | .lst _, _, ⟨a, xs, e1, h1, h2⟩ => ⟨a, xs, e1, e _ _ h1, h2⟩
  | .dct _ _, _, ⟨a, xs, e1, h1, h2, h3⟩ => ⟨a, xs, e1, e _ _ h1, h2, h3⟩
  | .non, _, h => h
  | .bl _, _, h => h
  | .int _, _, h => h
  | .str _, _, h => h
  | .tup _, _, h => h
  | .lck _, _, h => h
theorem Rt.full {K : PySem.W.Frag} {Hs H : Hp} (e : Same Hs H) : ∀ {d : D} {v : V}, Rt K Hs H d v → R K H d v
  | .lst _, _, ⟨a, xs, e1, h1, h2⟩ => ⟨a, xs, e1, h1, RA.mono e _ _ h2⟩
  | .dct _ _, _, ⟨a, xs, e1, h1, h2, h3⟩ => ⟨a, xs, e1, h1, h2, RA.mono e _ _ h3⟩
  | .non, _, h => h
  | .bl _, _, h => h
  | .int _, _, h => h
  | .str _, _, h => h
  | .tup _, _, ⟨a, xs, e1, h1, h2⟩ => ⟨a, xs, e1, Same.seqT e h1, RA.mono e _ _ h2⟩
  | .lck _, _, ⟨a, xs, e1, h1, h2⟩ => ⟨a, xs, e1, L2.Same.seq e h1, RA.mono e _ _ h2⟩
theorem Rt.tup' {K : PySem.W.Frag} {Hs H : Hp} {ds : List D} {v : V} (e : Same Hs H) (h : Rt K Hs H (.tup ds) v) : ∃ a xs, v = .ref a ∧ SqT K H a xs ∧ RA K Hs ds xs := by
  obtain ⟨a, xs, e1, h1, h2⟩ := h
  exact ⟨a, xs, e1, Same.seqT e h1, h2⟩
theorem Rt.lck' {K : PySem.W.Frag} {Hs H : Hp} {ds : List D} {v : V} (e : Same Hs H) (h : Rt K Hs H (.lck ds) v) : ∃ a xs, v = .ref a ∧ SqL K H a xs ∧ RA K Hs ds xs := by
  obtain ⟨a, xs, e1, h1, h2⟩ := h
  exact ⟨a, xs, e1, L2.Same.seq e h1, h2⟩

/-! ### reading and sharing results -/
def Ow.rd (o : Ow) (k : D → Prop) : Prop := match o with
  | .lst ds => k (.lst ds)
  | .dct ks vs => k (.dct ks vs)
  | .pool _ => False
def Sl.rd (s : Sl) (k : D → Prop) : Prop := match s with
  | .un => False
  | .sh d => k d
  | .own o => o.rd k
  | .io o => o.rd k
def rd (env : Ev) (r : Rv) (k : D → Prop) : Prop := match r with
  | .sh d => k d
  | .own o => o.rd k
  | .bor i => match env[i]? with
    | some s => s.rd k
    | none => False
def settle (r : Rv) (k : Rv → Prop) : Prop := match r with
  | .sh d => k (.sh d)
  | .own o => o.rd fun d => k (.sh d)
  | .bor i => k (.bor i)
def share (env : Ev) (r : Rv) (k : D → Ev → Prop) : Prop := match r with
  | .sh d => k d env
  | .own o => o.rd fun d => k d env
  | .bor i => match env[i]? with
    | some (.sh d) => k d env
    | some (.own o) => o.rd fun d => k d (env.set i (.sh d))
    | _ => False

structure Aft (K : PySem.W.Frag) (P : Addr → Prop) (env : Ev) (σ : L2.St) (H : Hp) (P' : Addr → Prop) (env' : Ev) (H' : Hp) : Prop where
  sim : Sim K P' env' σ H'
  step : Step P env σ H P' env' σ H'
  un : ∀ i : Nat, env[i]? ≠ some Sl.un → env'[i]? ≠ some Sl.un
/-- a result, of an evaluation that began at env, H -/
def Res (K : PySem.W.Frag) (env : Ev) (σ : L2.St) (H : Hp) (P' : Addr → Prop) (env' : Ev) (H' : Hp) (r : Rv) (v : V) : Prop :=
  RvOk K P' env' σ H' r v ∧ ∀ o a, r = .own o → v = .ref a → H a = none ∨ OwnA env σ a
def Rv.notOwn : Rv → Prop
  | .own _ => False
  | _ => True

section
variable {K : PySem.W.Frag} {P P1 P2 P' : Addr → Prop} {env env1 env2 env' : Ev} {σ : L2.St} {H H1 H2 H' : Hp}
theorem Aft.trans (a : Aft K P env σ H P1 env1 H1) (b : Aft K P1 env1 σ H1 P2 env2 H2) : Aft K P env σ H P2 env2 H2 := ⟨b.sim, a.step.trans b.step, fun i h => b.un i (a.un i h)⟩
theorem Aft.refl (S : Sim K P env σ H) : Aft K P env σ H P env H := ⟨S, Step.refl, fun _ h => h⟩
theorem NewRes.aft (S : Sim K P env σ H) {r : Rv} {w : V} (n : NewRes K P H P' H' r w) : Aft K P env σ H P' env H' := ⟨(n.fin S).1, (n.fin S).2.1, fun _ h => h⟩
theorem NewRes.res (S : Sim K P env σ H) {r : Rv} {w : V} (n : NewRes K P H P' H' r w) : Res K env σ H P' env H' r w := by
  refine ⟨(n.fin S).2.2, fun o a e1 e2 => ?_⟩
  subst e1; subst e2
  obtain ⟨_, b, e, h, _⟩ := n
  cases e
  exact .inl h
theorem Res.aft {r : Rv} {v : V} (A : Aft K P env σ H P1 env1 H1) (R1 : Res K env1 σ H1 P2 env2 H2 r v) : Res K env σ H P2 env2 H2 r v := by
  refine ⟨R1.1, fun o a e1 e2 => ?_⟩
  rcases R1.2 o a e1 e2 with z | z
  · refine .inl ?_
    cases e : H a with
    | none => rfl
    | some h => exact absurd z (A.step.there a (by rw [e]; simp))
  · exact (A.step.own a z).symm
theorem OwnAt.rd {a : Addr} {o : Ow} {k : D → Prop} {Hs : Hp} (h : OwnAt K Hs (H a) o) (q : o.rd k) : ∃ d, k d ∧ Rt K Hs H d (.ref a) := by
  cases o with
  | lst ds => obtain ⟨xs, h1, h2⟩ := h; exact ⟨_, q, a, xs, rfl, h1, h2⟩
  | dct ks vs => obtain ⟨xs, h1, h2, h3⟩ := h; exact ⟨_, q, a, xs, rfl, h1, h2, h3⟩
  | pool n => exact q.elim
theorem rd_ok (S : Sim K P env σ H) {r : Rv} {v : V} {k : D → Prop} (h : RvOk K P env σ H r v) (q : rd env r k) : ∃ d, k d ∧ Rt K (mask H P) H d v := by
  cases r with
  | sh d => exact ⟨d, q, R.top (mask_same H P) h⟩
  | own o =>
    obtain ⟨a, rfl, _, _, h⟩ := h
    exact h.rd q
  | bor i =>
    obtain ⟨h, _⟩ := h
    unfold rd at q
    cases e : env[i]? with
    | none => simp only [e] at q
    | some s =>
      simp only [e] at q
      have sl := S.slot i s e
      cases s with
      | un => exact q.elim
      | sh d =>
        obtain ⟨v', h1, h2⟩ := sl
        rw [h] at h1
        cases h1
        exact ⟨d, q, R.top (mask_same H P) h2⟩
      | own o =>
        obtain ⟨a, h1, _, h2⟩ := sl
        rw [h] at h1
        cases h1
        exact h2.rd q
      | io o =>
        obtain ⟨a, h1, _, h2⟩ := sl
        rw [h] at h1
        cases h1
        exact h2.rd q
theorem Rt.shared {a : Addr} {d : D} {Hs Hs' : Hp} (h : Rt K Hs H d (.ref a)) (e : Same Hs Hs') (ha : Hs' a = H a) (o : Ow) {k : D → Prop} (ho : OwnAt K Hs (H a) o) (hd : o.rd fun d' => d' = d) : R K Hs' d (.ref a) := by
  cases o with
  | lst ds =>
    obtain rfl : D.lst ds = d := hd
    obtain ⟨xs, h1, h2⟩ := ho
    exact ⟨a, xs, rfl, by rw [ha, h1], RA.mono e _ _ h2⟩
  | dct ks vs =>
    obtain rfl : D.dct ks vs = d := hd
    obtain ⟨xs, h1, h2, h3⟩ := ho
    exact ⟨a, xs, rfl, by rw [ha, h1], h2, RA.mono e _ _ h3⟩
  | pool n => exact hd.elim
theorem OwnAt.share {a : Addr} {o : Ow} {k : D → Prop} {Hs Hs' : Hp} (ho : OwnAt K Hs (H a) o) (q : o.rd k) (e : Same Hs Hs') (ha : Hs' a = H a) : ∃ d, k d ∧ R K Hs' d (.ref a) := by
  cases o with
  | lst ds => obtain ⟨xs, h1, h2⟩ := ho; exact ⟨_, q, a, xs, rfl, by rw [ha, h1], RA.mono e _ _ h2⟩
  | dct ks vs => obtain ⟨xs, h1, h2, h3⟩ := ho; exact ⟨_, q, a, xs, rfl, by rw [ha, h1], h2, RA.mono e _ _ h3⟩
  | pool n => exact q.elim
/-- a private object of no slot is given to all -/
theorem Aft.drop (A : Aft K P env σ H P1 env1 H1) {a : Addr} (n1 : ¬ OwnA env1 σ a) (n0 : H a = none ∨ OwnA env σ a) : Aft K P env σ H (fun b => P1 b ∧ b ≠ a) env1 H1 ∧ Same (mask H1 P1) (mask H1 fun b => P1 b ∧ b ≠ a) := by
  have mm : Same (mask H1 P1) (mask H1 fun b => P1 b ∧ b ≠ a) := mask_le fun b o h1 h2 => ⟨fun z => h1 z.1, h2⟩
  have S := A.sim
  refine ⟨⟨⟨S.len, fun b h => S.dom b h.1, fun i s e => ?_, S.inj⟩, ⟨A.step.keep, fun b h n => ?_, A.step.own, A.step.there, A.step.io⟩, A.un⟩, mm⟩
  · have sl := S.slot i s e
    cases s with
    | un => trivial
    | sh d => obtain ⟨v, h1, h2⟩ := sl; exact ⟨v, h1, R.mono mm _ _ h2⟩
    | own o => obtain ⟨b, h1, h2, h3⟩ := sl; exact ⟨b, h1, ⟨h2, fun z => n1 (z ▸ ⟨i, _, _, e, rfl, h1⟩)⟩, h3.mono mm⟩
    | io o => obtain ⟨b, h1, h2, h3⟩ := sl; exact ⟨b, h1, ⟨h2, fun z => n1 (z ▸ ⟨i, _, _, e, rfl, h1⟩)⟩, h3.mono mm⟩
  · refine ⟨fun z => (A.step.priv b h n).mp z.1, fun z => ⟨(A.step.priv b h n).mpr z, fun e => ?_⟩⟩
    subst e
    rcases n0 with q | q
    · exact h q
    · exact n q
theorem settle_ok (A : Aft K P env σ H P1 env1 H1) {r : Rv} {v : V} {k : Rv → Prop} (R1 : Res K env σ H P1 env1 H1 r v) (q : settle r k) :
    ∃ r' P', k r' ∧ r'.notOwn ∧ Aft K P env σ H P' env1 H1 ∧ RvOk K P' env1 σ H1 r' v := by
  cases r with
  | sh d => exact ⟨_, P1, q, trivial, A, R1.1⟩
  | bor i => exact ⟨_, P1, q, trivial, A, R1.1⟩
  | own o =>
    obtain ⟨a, rfl, hP, nO, ho⟩ := R1.1
    obtain ⟨A', mm⟩ := A.drop nO (R1.2 o a rfl rfl)
    obtain ⟨d, kd, rd'⟩ := ho.share (k := fun d => k (.sh d)) q mm (mask_yes fun z => z.2 rfl)
    exact ⟨_, _, kd, trivial, A', rd'⟩
theorem share_ok (A : Aft K P env σ H P1 env1 H1) {r : Rv} {v : V} {k : D → Ev → Prop} (R1 : Res K env σ H P1 env1 H1 r v) (q : share env1 r k) :
    ∃ d env2 P2, k d env2 ∧ Aft K P env σ H P2 env2 H1 ∧ R K (mask H1 P2) d v := by
  cases r with
  | sh d => exact ⟨_, _, P1, q, A, R1.1⟩
  | own o =>
    obtain ⟨a, rfl, hP, nO, ho⟩ := R1.1
    obtain ⟨A', mm⟩ := A.drop nO (R1.2 o a rfl rfl)
    obtain ⟨d, kd, rd'⟩ := ho.share (k := fun d => k d env1) q mm (mask_yes fun z => z.2 rfl)
    exact ⟨_, _, _, kd, A', rd'⟩
  | bor i =>
    obtain ⟨⟨h, _⟩, _⟩ := R1
    have S := A.sim
    unfold share at q
    cases e : env1[i]? with
    | none => simp only [e] at q
    | some s =>
      simp only [e] at q
      have sl := S.slot i s e
      cases s with
      | un => exact q.elim
      | io o => exact q.elim
      | sh d =>
        obtain ⟨v', h1, h2⟩ := sl
        rw [h] at h1
        cases h1
        exact ⟨d, env1, P1, q, A, h2⟩
      | own o =>
        obtain ⟨a, h1, hP, ho⟩ := sl
        rw [h] at h1
        cases h1
        have mm : Same (mask H1 P1) (mask H1 fun b => P1 b ∧ b ≠ a) := mask_le fun b o h1 h2 => ⟨fun z => h1 z.1, h2⟩
        obtain ⟨d, kd, rd'⟩ := ho.share (k := fun d => k d (env1.set i (.sh d))) q mm (mask_yes fun z => z.2 rfl)
        have oi : OwnI env1 σ a i := ⟨_, _, e, rfl, h⟩
        have hi : i < env1.length := (List.getElem?_eq_some_iff.mp e).1
        have own' : ∀ c j, OwnI (env1.set i (.sh d)) σ c j → OwnI env1 σ c j ∧ j ≠ i := fun c j ⟨s, o', q1, q2, q3⟩ => by
          by_cases hj : i = j
          · subst hj
            rw [List.getElem?_set_self hi] at q1
            cases q1; cases q2
          · rw [List.getElem?_set_ne hj] at q1
            exact ⟨⟨s, o', q1, q2, q3⟩, fun z => hj z.symm⟩
        have own2 : ∀ (j : Nat) (o' : Ow) (c : Addr), (env1.set i (.sh d))[j]? = some (.io o') → σ[j]? = some (some (V.ref c)) → env1[j]? = some (.io o') := fun j o' c q1 q2 => by
          by_cases hj : i = j
          · subst hj
            rw [List.getElem?_set_self hi] at q1
            cases q1
          · rw [List.getElem?_set_ne hj] at q1
            exact q1
        refine ⟨d, _, _, kd, A.trans ⟨⟨by rw [List.length_set]; exact S.len, fun b z => S.dom b z.1, fun j s' e' => ?_, fun j l c q1 q2 => S.inj j l c (own' c j q1).1 (own' c l q2).1⟩,
          ⟨fun c o h _ => h, fun c hc n => ⟨fun z => z.1, fun z => ⟨z, fun e => n (e ▸ ⟨i, oi⟩)⟩⟩, fun c ⟨j, z⟩ => .inl ⟨j, (own' c j z).1⟩, fun _ h => h, fun j o' c q1 q2 => ⟨o', (own2 j o' c q1 q2), q2⟩⟩, fun j hj => ?_⟩, rd'⟩
        · have keepO : ∀ (o' : Ow), s'.ow? = some o' → (∃ b, σ[j]? = some (some (V.ref b)) ∧ P1 b ∧ OwnAt K (mask H1 P1) (H1 b) o') → j ≠ i → env1[j]? = some s' → ∃ b, σ[j]? = some (some (V.ref b)) ∧ (P1 b ∧ b ≠ a) ∧ OwnAt K (mask H1 fun b => P1 b ∧ b ≠ a) (H1 b) o' := by
            rintro o' eo ⟨b, q1, q2, q3⟩ hj es
            refine ⟨b, q1, ⟨q2, fun z => hj (S.inj j i b ⟨_, _, es, eo, q1⟩ (z ▸ oi))⟩, q3.mono mm⟩
          by_cases hj : i = j
          · subst hj
            rw [List.getElem?_set_self hi] at e'
            cases e'
            exact ⟨_, h, rd'⟩
          · rw [List.getElem?_set_ne hj] at e'
            have sl := S.slot j s' e'
            cases s' with
            | un => trivial
            | sh d' => obtain ⟨v', q1, q2⟩ := sl; exact ⟨v', q1, R.mono mm _ _ q2⟩
            | own o' => exact keepO o' rfl sl (Ne.symm hj) e'
            | io o' => exact keepO o' rfl sl (Ne.symm hj) e'
        · by_cases hi' : i = j
          · subst hi'
            rw [List.getElem?_set_self hi]
            intro z; cases z
          · rw [List.getElem?_set_ne hi']
            exact hj
theorem RvOk.aft {r : Rv} {v : V} (h : RvOk K P env σ H r v) (S : Sim K P env σ H) (A : Aft K P env σ H P' env' H') (n : r.notOwn) : RvOk K P' env' σ H' r v :=
  RvOk.step S A.step A.un (fun o e => by subst e; exact n) h
theorem RvOk.res {r : Rv} {v : V} (h : RvOk K P1 env1 σ H1 r v) (n : r.notOwn) : Res K env σ H P1 env1 H1 r v := ⟨h, fun o a e _ => by subst e; exact n.elim⟩
end

/-! ### readings over pure environments, and what they stand for -/
abbrev TEp := Ev → (Rv → Ev → Prop) → Prop
abbrev TAp := Ev → (List Rv → Ev → Prop) → Prop
abbrev TTp := Ev → (Bool → Ev → Prop) → Prop
structure PEnds where
  nx : Ev → Prop
  rt : Rv → Ev → Prop
  bk : Ev → Prop := fun _ => False
  ct : Ev → Prop := fun _ => False
abbrev TSp := PEnds → Ev → Prop

def RvsOk (K : PySem.W.Frag) (P : Addr → Prop) (env : Ev) (σ : L2.St) (H : Hp) : List Rv → List V → Prop
  | [], vs => vs = []
  | r :: rs, vs => ∃ v vs', vs = v :: vs' ∧ r.notOwn ∧ RvOk K P env σ H r v ∧ RvsOk K P env σ H rs vs'
def liftE (K : PySem.W.Frag) (t : TEp) : TE := fun σ H Q => ∃ P env K', Sim K P env σ H ∧ t env K' ∧ ∀ r env' v P' H', K' r env' → Aft K P env σ H P' env' H' → Res K env σ H P' env' H' r v → Q v H'
def liftA (K : PySem.W.Frag) (t : TAp) : TA := fun σ H Q => ∃ P env K', Sim K P env σ H ∧ t env K' ∧ ∀ rs env' vs P' H', K' rs env' → Aft K P env σ H P' env' H' → RvsOk K P' env' σ H' rs vs → Q vs H'
def liftT (K : PySem.W.Frag) (t : TTp) : TT := fun σ H Q => ∃ P env K', Sim K P env σ H ∧ t env K' ∧ ∀ b env' P' H', K' b env' → Aft K P env σ H P' env' H' → Q b H'
structure Fits (K : PySem.W.Frag) (P : Addr → Prop) (env : Ev) (σ : L2.St) (H : Hp) (D' : Ends) (K' : PEnds) : Prop where
  nx : ∀ env' σ' P' H', K'.nx env' → Sim K P' env' σ' H' → Step P env σ H P' env' σ' H' → D'.nx σ' H'
  bk : ∀ env' σ' P' H', K'.bk env' → Sim K P' env' σ' H' → Step P env σ H P' env' σ' H' → D'.bk σ' H'
  ct : ∀ env' σ' P' H', K'.ct env' → Sim K P' env' σ' H' → Step P env σ H P' env' σ' H' → D'.ct σ' H'
  rt : ∀ r env' v σ' P' H', K'.rt r env' → Sim K P' env' σ' H' → Step P env σ H P' env' σ' H' → RvOk K P' env' σ' H' r v → (∀ o a, r = .own o → v = .ref a → H a = none ∨ OwnA env σ a) → (∀ i, r ≠ .bor i) → D'.rt v H'
def liftS (K : PySem.W.Frag) (t : TSp) : TS := fun D' σ H => ∃ P env K', Sim K P env σ H ∧ t K' env ∧ Fits K P env σ H D' K'
def E (X : Cx) (e : Expr) (t : TEp) : Prop := PE X e (liftE X.K t)
def A (X : Cx) (es : List Expr) (t : TAp) : Prop := PA X es (liftA X.K t)
def T (X : Cx) (e : Expr) (t : TTp) : Prop := PT X e (liftT X.K t)
def W (X : Cx) (e : Expr) (t : TTp) : Prop := PW X e (liftT X.K t)
def S (X : Cx) (st : Stmt) (t : TSp) : Prop := PS X st (liftS X.K t)
def SS (X : Cx) (st : List Stmt) (t : TSp) : Prop := PSs X st (liftS X.K t)

theorem peImp {X : Cx} {e : Expr} {t t' : TE} (h : PE X e t) (i : ∀ σ H Q, t' σ H Q → t σ H Q) : PE X e t' := ⟨fun pins s σ H Q I q => h.run pins s σ H Q I (i σ H Q q)⟩
theorem ptImp {X : Cx} {e : Expr} {t t' : TT} (h : PT X e t) (i : ∀ σ H Q, t' σ H Q → t σ H Q) : PT X e t' := ⟨fun pins s σ H Q I q => h.run pins s σ H Q I (i σ H Q q)⟩
theorem pwImp {X : Cx} {e : Expr} {t t' : TT} (h : PW X e t) (i : ∀ σ H Q, t' σ H Q → t σ H Q) : PW X e t' := ⟨fun w pins s σ H Q I q => h.run w pins s σ H Q I (i σ H Q q)⟩
theorem paImp {X : Cx} {e : List Expr} {t t' : TA} (h : PA X e t) (i : ∀ σ H Q, t' σ H Q → t σ H Q) : PA X e t' := ⟨fun pos pins s σ H Q I q => h.run pos pins s σ H Q I (i σ H Q q)⟩
theorem psImp {X : Cx} {e : Stmt} {t t' : TS} (h : PS X e t) (i : ∀ D' σ H, t' D' σ H → t D' σ H) : PS X e t' := ⟨fun pins s σ H D' I q => h.run pins s σ H D' I (i D' σ H q)⟩
theorem pssImp {X : Cx} {e : List Stmt} {t t' : TS} (h : PSs X e t) (i : ∀ D' σ H, t' D' σ H → t D' σ H) : PSs X e t' := ⟨fun pins s σ H D' I q => h.run pins s σ H D' I (i D' σ H q)⟩
theorem Fits.step {K : PySem.W.Frag} {P P1 : Addr → Prop} {env env1 : Ev} {σ σ1 : L2.St} {H H1 : Hp} {D' : Ends} {K' : PEnds} (f : Fits K P env σ H D' K') (t : Step P env σ H P1 env1 σ1 H1) : Fits K P1 env1 σ1 H1 D' K' where
  nx := fun e s p h k S q => f.nx e s p h k S (t.trans q)
  bk := fun e s p h k S q => f.bk e s p h k S (t.trans q)
  ct := fun e s p h k S q => f.ct e s p h k S (t.trans q)
  rt := fun r e v s p h k S q rv n nb => f.rt r e v s p h k S (t.trans q) rv (fun o a e1 e2 => by
    rcases n o a e1 e2 with z | z
    · refine .inl ?_
      cases e : H a with
      | none => rfl
      | some h => exact absurd z (t.there a (by rw [e]; simp))
    · exact (t.own a z).symm) nb

/-! ### names, constants -/
section
variable {X : Cx} {a b c e : Expr} {es : List Expr} {ta tb tc te : TEp} {tA : TAp} {pos : Pos}
def pVar (i : Nat) : TEp := fun env K => match env[i]? with
  | some .un => False
  | none => False
  | some _ => K (.bor i) env
def pC (d : D) : TEp := fun env K => K (.sh d) env
theorem slot_val {K : PySem.W.Frag} {P : Addr → Prop} {env : Ev} {σ : L2.St} {H : Hp} (S : Sim K P env σ H) {i : Nat} {s : Sl} (e : env[i]? = some s) (n : s ≠ .un) : ∃ v, σ[i]? = some (some v) := by
  have q := S.slot i s e
  cases s with
  | un => exact absurd rfl n
  | sh d => obtain ⟨v, h, _⟩ := q; exact ⟨v, h⟩
  | own o => obtain ⟨v, h, _⟩ := q; exact ⟨_, h⟩
  | io o => obtain ⟨v, h, _⟩ := q; exact ⟨_, h⟩
theorem pVar_ok {K : PySem.W.Frag} {i : Nat} {σ : L2.St} {H : Hp} {Q : VK} (h : liftE K (pVar i) σ H Q) : tVar i σ H Q := by
  obtain ⟨P, env, K', S, t, k⟩ := h
  unfold pVar at t
  have go : ∀ s, env[i]? = some s → s ≠ Sl.un → K' (.bor i) env → tVar i σ H Q := fun s e n t => by
    obtain ⟨v, hv⟩ := slot_val S e n
    exact ⟨v, hv, k (.bor i) env v P H t (Aft.refl S) ⟨⟨hv, by rw [e]; exact fun z => n (Option.some.inj z)⟩, fun o a e => nomatch e⟩⟩
  cases e : env[i]? with
  | none => simp only [e] at t
  | some s =>
    cases s with
    | un => simp only [e] at t
    | sh d => simp only [e] at t; exact go _ e (fun z => nomatch z) t
    | own d => simp only [e] at t; exact go _ e (fun z => nomatch z) t
    | io d => simp only [e] at t; exact go _ e (fun z => nomatch z) t
theorem ev (i : Nat) {x : Str} {pos : Pos} (hN : X.N[i]? = some x := by rfl) (hv : Vis X.env.scope x := by first | exact Or.inl rfl | exact Or.inr (Or.inl rfl) | exact Or.inr (Or.inr rfl)) (hd : (x == ("__debug__" : Str)) = false := by decide)
    (hcd : (x == ("__classdict__" : Str)) = false := by decide) : E X (.Name x pos) (pVar i) := peImp (pv i hN hv hd hcd) fun _ _ _ h => pVar_ok h
theorem pC_ok {K : PySem.W.Frag} {d : D} {v : V} {σ : L2.St} {H : Hp} {Q : VK} (hr : ∀ H, R K H d v) (h : liftE K (pC d) σ H Q) : tC v σ H Q := by
  obtain ⟨P, env, K', S, t, k⟩ := h
  exact k (.sh d) env v P H t (Aft.refl S) ⟨hr _, fun o a e => nomatch e⟩
theorem e_int {i j} : E X (.Constant (.int i) j pos) (pC (.int i)) := peImp pe_int fun _ _ _ h => pC_ok (d := .int i) (fun _ => rfl) h
theorem e_bl {i j} : E X (.Constant (.bool i) j pos) (pC (.bl i)) := peImp pe_bl fun _ _ _ h => pC_ok (d := .bl i) (fun _ => rfl) h
theorem e_non {j} : E X (.Constant .none j pos) (pC .non) := peImp pe_non fun _ _ _ h => pC_ok (d := .non) (fun _ => rfl) h
theorem e_str (l : List Nat) {z : Str} {j} (hz : z = toStr l := by first | rfl | decide +kernel) : E X (.Constant (.str z) j pos) (pC (.str l)) := peImp pe_str fun _ _ _ h => pC_ok (d := .str l) (fun _ => by rw [hz]; rfl) h
/-- a module's constant -/
theorem e_glob {x : Str} {d : D} {v : V} {u : Value} (hg : Gl X x) (hm : X.mg x = some u) (r : RelV v u) (hr : ∀ H, R X.K H d v) (hd : (x == ("__debug__" : Str)) = false := by decide) : E X (.Name x pos) (pC d) :=
  peImp (pe_glob hg hm r hd) fun _ _ _ h => pC_ok hr h

/-! ### operators -/
def OpP (X : Cx) (F : Value → Value → Sem Value) (f : D → D → (Rv → Prop) → Prop) : Prop :=
  ∃ r : R2, OpR X F r ∧ ∀ P H x y v u Kf Q, (∀ a, P a → H a ≠ none) → Rt X.K (mask H P) H x v → Rt X.K (mask H P) H y u → f x y Kf → (∀ q w P' H', Kf q → NewRes X.K P H P' H' q w → Q w H') → r v u H Q
def UnP (X : Cx) (F : Value → Sem Value) (f : D → (Rv → Prop) → Prop) : Prop :=
  ∃ r : V → Hp → VK → Prop, UnR X F r ∧ ∀ P H x v Kf Q, (∀ a, P a → H a ≠ none) → Rt X.K (mask H P) H x v → f x Kf → (∀ q w P' H', Kf q → NewRes X.K P H P' H' q w → Q w H') → r v H Q
def IxP (X : Cx) (f : D → D → (Rv → Prop) → Prop) : Prop :=
  ∃ r : R2, IxR X r ∧ ∀ P H x y v u Kf Q, (∀ a, P a → H a ≠ none) → Rt X.K (mask H P) H x v → Rt X.K (mask H P) H y u → f x y Kf → (∀ q w P' H', Kf q → NewRes X.K P H P' H' q w → Q w H') → r v u H Q
def pOp2 (f : D → D → (Rv → Prop) → Prop) (ta tb : TEp) : TEp := fun env K => ta env fun r1 e1 => settle r1 fun r1 => tb e1 fun r2 e2 => rd e2 r1 fun x => rd e2 r2 fun y => f x y fun r => K r e2
def pOp1 (f : D → (Rv → Prop) → Prop) (ta : TEp) : TEp := fun env K => ta env fun r1 e1 => rd e1 r1 fun x => f x fun r => K r e1
theorem op2_ok {K : PySem.W.Frag} {f : D → D → (Rv → Prop) → Prop} {r : R2} {σ : L2.St} {H : Hp} {Q : VK}
    (hr : ∀ P H x y v u Kf Q, (∀ a, P a → H a ≠ none) → Rt K (mask H P) H x v → Rt K (mask H P) H y u → f x y Kf → (∀ q w P' H', Kf q → NewRes K P H P' H' q w → Q w H') → r v u H Q)
    (h : liftE K (pOp2 f ta tb) σ H Q) : tOp r (liftE K ta) (liftE K tb) σ H Q := by
  obtain ⟨P, env, K', S, t, k⟩ := h
  refine ⟨P, env, _, S, t, fun r1 e1 v1 P1 H1 t1 A1 R1 => ?_⟩
  obtain ⟨r1', P1', t1, n1, A1, R1⟩ := settle_ok A1 R1 t1
  refine ⟨P1', e1, _, A1.sim, t1, fun r2 e2 v2 P2 H2 t2 A2 R2 => ?_⟩
  obtain ⟨x, t2, X1⟩ := rd_ok A2.sim (R1.aft A1.sim A2 n1) t2
  obtain ⟨y, t2, Y1⟩ := rd_ok A2.sim R2.1 t2
  refine hr P2 H2 x y v1 v2 _ _ A2.sim.dom X1 Y1 t2 fun q w P3 H3 kq n => ?_
  have A3 := A1.trans A2
  exact k q e2 w P3 H3 kq (A3.trans (n.aft A2.sim)) (Res.aft A3 (n.res A2.sim))
theorem op1_ok {K : PySem.W.Frag} {f : D → (Rv → Prop) → Prop} {r : V → Hp → VK → Prop} {σ : L2.St} {H : Hp} {Q : VK}
    (hr : ∀ P H x v Kf Q, (∀ a, P a → H a ≠ none) → Rt K (mask H P) H x v → f x Kf → (∀ q w P' H', Kf q → NewRes K P H P' H' q w → Q w H') → r v H Q)
    (h : liftE K (pOp1 f ta) σ H Q) : tUn r (liftE K ta) σ H Q := by
  obtain ⟨P, env, K', S, t, k⟩ := h
  refine ⟨P, env, _, S, t, fun r2 e2 v2 P2 H2 t2 A2 R2 => ?_⟩
  obtain ⟨y, t2, Y1⟩ := rd_ok A2.sim R2.1 t2
  refine hr P2 H2 y v2 _ _ A2.sim.dom Y1 t2 fun q w P3 H3 kq n => ?_
  exact k q e2 w P3 H3 kq (A2.trans (n.aft A2.sim)) (Res.aft A2 (n.res A2.sim))
theorem e_op {op : Operator} {f} (ho : OpP X (binaryOp op) f) (ha : E X a ta) (hb : E X b tb) : E X (.BinOp a op b pos) (pOp2 f ta tb) := by
  obtain ⟨r, ho, hr⟩ := ho
  exact peImp (pe_op ho ha hb) fun σ H Q h => op2_ok hr h
theorem e_cmp {op : CmpOp} {f} (ho : OpP X (compareOp op) f) (ha : E X a ta) (hb : E X b tb) (hm : behindInMarks op b = false := by rfl) : E X (.Compare a [op] [b] pos) (pOp2 f ta tb) := by
  obtain ⟨r, ho, hr⟩ := ho
  exact peImp (pe_cmpR ho ha hb hm) fun σ H Q h => op2_ok hr h
theorem e_un {op : UnaryOp} {f} (ho : UnP X (unaryOp op) f) (ha : E X a ta) : E X (.UnaryOp op a pos) (pOp1 f ta) := by
  obtain ⟨r, ho, hr⟩ := ho
  exact peImp (pe_un ho ha) fun σ H Q h => op1_ok hr h
theorem e_ix {f} (ho : IxP X f) (ha : E X a ta) (hb : E X b tb) (hs : PlainIx b := by exact fun _ _ => rfl) : E X (.Subscript a b pos) (pOp2 f ta tb) := by
  obtain ⟨r, ho, hr⟩ := ho
  exact peImp (pe_ix ho ha hb hs) fun σ H Q h => op2_ok hr h
/-- a test by a comparison -/
def pTst (t : TEp) : TTp := fun env K => t env fun r e => match r with
  | .sh (.bl b) => K b e
  | _ => False
theorem pTst_ok {K : PySem.W.Frag} {t : TEp} {σ : L2.St} {H : Hp} {Q : Bool → Hp → Prop} (h : liftT K (pTst t) σ H Q) : liftE K t σ H fun x H' => ∃ k, x = .bl k ∧ Q k H' := by
  obtain ⟨P, env, K', S, t, k⟩ := h
  refine ⟨P, env, _, S, t, fun r e v P1 H1 t1 A1 R1 => ?_⟩
  cases r with
  | sh d =>
    cases d with
    | bl b => exact ⟨b, R1.1, k b e P1 H1 t1 A1⟩
    | _ => exact t1.elim
  | _ => exact t1.elim
theorem op2_shift {f : D → D → (Rv → Prop) → Prop} : pTst (pOp2 f ta tb) = fun env K => pOp2 f ta tb env fun r e => match r with
  | .sh (.bl b) => K b e
  | _ => False := rfl
theorem t_cmp {op : CmpOp} {f} (ho : OpP X (compareOp op) f) (ha : E X a ta) (hb : E X b tb) (hm : behindInMarks op b = false := by rfl) : T X (.Compare a [op] [b] pos) (pTst (pOp2 f ta tb)) := by
  obtain ⟨r, ho, hr⟩ := ho
  refine ptImp (pt_cmpR ho ha hb hm) fun σ H Q h => ?_
  exact op2_ok hr (pTst_ok h)

/-! ### truth -/
/-- truth by data -/
def truD (d : D) (k : Bool → Prop) : Prop := match d with
  | .non => k false
  | .bl b => k b
  | .int i => k (i != 0)
  | .str l => l.length ≤ sizeLine ∧ k (!l.isEmpty)
  | .lst ds => k (!ds.isEmpty)
  | .tup ds => k (!ds.isEmpty)
  | .lck ds => k (!ds.isEmpty)
  | .dct ks _ => k (!ks.isEmpty)
def pTru (t : TEp) : TTp := fun env K => t env fun r e => rd e r fun d => truD d fun b => K b e
theorem RA.emp {K : PySem.W.Frag} {H : Hp} {ds : List D} {vs : List V} (h : RA K H ds vs) : vs.isEmpty = ds.isEmpty := by
  cases ds with
  | nil => rw [show vs = [] from h]; rfl
  | cons d ds => obtain ⟨v, r, e, _⟩ := h; rw [e]; rfl
theorem truD_ok {K : PySem.W.Frag} {Hs H : Hp} (sm : Same Hs H) {k : Bool → Prop} {v : V} : ∀ {d : D}, Rt K Hs H d v → truD d k → ∃ b, TruV K v H b ∧ k b
  | .non, h, q => ⟨false, by rw [show v = _ from h]; rfl, q⟩
  | .bl b, h, q => ⟨b, by rw [show v = _ from h]; rfl, q⟩
  | .int i, h, q => ⟨_, by rw [show v = _ from h]; rfl, q⟩
  | .str l, h, q => by
    rw [show v = _ from h]
    refine ⟨_, ⟨by rw [toStr_len]; exact q.1, ?_⟩, q.2⟩
    rw [toStr_len]
    cases l with
    | nil => rfl
    | cons x r => simp [bne]; omega
  | .lst ds, h, q => by
    obtain ⟨a, xs, rfl, h1, h2⟩ := h
    exact ⟨_, .inl ⟨xs, SqL.of h1, by rw [h2.emp]⟩, q⟩
  | .tup ds, h, q => by
    obtain ⟨a, xs, rfl, h1, h2⟩ := h
    exact ⟨_, .inr (.inl ⟨xs, Same.seqT sm h1, by rw [h2.emp]⟩), q⟩
  | .lck ds, h, q => by
    obtain ⟨a, xs, rfl, h1, h2⟩ := h
    exact ⟨_, .inl ⟨xs, L2.Same.seq sm h1, by rw [h2.emp]⟩, q⟩
  | .dct ks vs, h, q => by
    obtain ⟨a, xs, rfl, h1, h2, _⟩ := h
    refine ⟨_, .inr (.inr ⟨xs, h1, rfl⟩), ?_⟩
    have e : xs.isEmpty = ks.isEmpty := by
      have := congrArg List.length h2
      simp at this
      cases xs <;> cases ks <;> simp_all
    rw [e]; exact q
theorem t_tru (ha : E X a ta) (he : ∀ whole, isTrue a X.env whole = (do let v ← whole; standAt a.pos; holding [v] (truthy v)) := by intro _; rfl) : T X a (pTru ta) := by
  refine ptImp (pt_truth ha he) fun σ H Q h => ?_
  obtain ⟨P, env, K', S, t, k⟩ := h
  refine ⟨P, env, _, S, t, fun r e v P1 H1 t1 A1 R1 => ?_⟩
  obtain ⟨d, t1, X1⟩ := rd_ok A1.sim R1.1 t1
  obtain ⟨b, tv, t1⟩ := truD_ok (mask_same _ _) X1 t1
  exact ⟨b, tv, k b e P1 H1 t1 A1⟩
def pAnd (t u : TTp) : TTp := fun env K => t env fun b e => match b with
  | true => u e K
  | false => K false e
def pOr (t u : TTp) : TTp := fun env K => t env fun b e => match b with
  | true => K true e
  | false => u e K
def pNot (t : TTp) : TTp := fun env K => t env fun b e => K (!b) e
variable {rest : List Expr} {t u : TTp}
theorem pAnd_ok {K : PySem.W.Frag} {σ : L2.St} {H : Hp} {Q : Bool → Hp → Prop} (h : liftT K (pAnd t u) σ H Q) : tAnd (liftT K t) (liftT K u) σ H Q := by
  obtain ⟨P, env, K', S, t, k⟩ := h
  refine ⟨P, env, _, S, t, fun b e P1 H1 t1 A1 => ?_⟩
  cases b with
  | true => rw [if_pos rfl]; exact ⟨P1, e, K', A1.sim, t1, fun b e P2 H2 t2 A2 => k b e P2 H2 t2 (A1.trans A2)⟩
  | false => rw [if_neg Bool.false_ne_true]; exact k _ _ _ _ t1 A1
theorem pOr_ok {K : PySem.W.Frag} {σ : L2.St} {H : Hp} {Q : Bool → Hp → Prop} (h : liftT K (pOr t u) σ H Q) : tOr (liftT K t) (liftT K u) σ H Q := by
  obtain ⟨P, env, K', S, t, k⟩ := h
  refine ⟨P, env, _, S, t, fun b e P1 H1 t1 A1 => ?_⟩
  cases b with
  | true => rw [if_pos rfl]; exact k _ _ _ _ t1 A1
  | false => rw [if_neg Bool.false_ne_true]; exact ⟨P1, e, K', A1.sim, t1, fun b e P2 H2 t2 A2 => k b e P2 H2 t2 (A1.trans A2)⟩
theorem w_and1 (ha : T X a t) : W X (.BoolOp .And [a] pos) t := pw_and1 ha
theorem w_or1 (ha : T X a t) : W X (.BoolOp .Or [a] pos) t := pw_or1 ha
theorem w_and (ha : T X a t) (hb : W X (.BoolOp .And (b :: rest) pos) u) : W X (.BoolOp .And (a :: b :: rest) pos) (pAnd t u) := pwImp (pw_and ha hb) fun _ _ _ h => pAnd_ok h
theorem w_or (ha : T X a t) (hb : W X (.BoolOp .Or (b :: rest) pos) u) : W X (.BoolOp .Or (a :: b :: rest) pos) (pOr t u) := pwImp (pw_or ha hb) fun _ _ _ h => pOr_ok h
theorem t_w {e : Expr} (h : W X e t) : T X e t := L2.PW.pt h
theorem t_not (ha : T X a t) : T X (.UnaryOp .Not a pos) (pNot t) := by
  refine ptImp (pt_not ha) fun σ H Q h => ?_
  obtain ⟨P, env, K', S, t, k⟩ := h
  exact ⟨P, env, _, S, t, fun b e P1 H1 t1 A1 => k _ e P1 H1 t1 A1⟩
def pIf (c : TTp) (ta tb : TEp) : TEp := fun env K => c env fun b e => match b with
  | true => ta e K
  | false => tb e K
theorem liftE.aft {K : PySem.W.Frag} {P P1 : Addr → Prop} {env e : Ev} {σ : L2.St} {H H1 : Hp} {Q : VK} {K' : Rv → Ev → Prop} (A1 : Aft K P env σ H P1 e H1) (t1 : ta e K')
    (k : ∀ r env' v P' H', K' r env' → Aft K P env σ H P' env' H' → Res K env σ H P' env' H' r v → Q v H') : liftE K ta σ H1 Q :=
  ⟨P1, e, K', A1.sim, t1, fun r e v P2 H2 t2 A2 R2 => k r e v P2 H2 t2 (A1.trans A2) (Res.aft A1 R2)⟩
theorem e_if {c : Expr} {t : TTp} (hc : T X c t) (ha : E X a ta) (hb : E X b tb) : E X (.IfExp c a b pos) (pIf t ta tb) := by
  refine peImp (pe_ifExp hc ha hb) fun σ H Q h => ?_
  obtain ⟨P, env, K', S, t, k⟩ := h
  refine ⟨P, env, _, S, t, fun b e P1 H1 t1 A1 => ?_⟩
  cases b with
  | true => rw [if_pos rfl]; exact liftE.aft A1 t1 k
  | false => rw [if_neg Bool.false_ne_true]; exact liftE.aft A1 t1 k
/-- and, or as values -/
def pAndV (ta tb : TEp) : TEp := fun env K => ta env fun r e => settle r fun r => rd e r fun d => truD d fun b => match b with
  | true => tb e K
  | false => K r e
def pOrV (ta tb : TEp) : TEp := fun env K => ta env fun r e => settle r fun r => rd e r fun d => truD d fun b => match b with
  | true => K r e
  | false => tb e K
def pNotV (ta : TEp) : TEp := fun env K => ta env fun r e => rd e r fun d => truD d fun b => K (.sh (.bl (!b))) e
theorem e_one {op} (h : E X a ta) : E X (.BoolOp op [a] pos) ta := pe_one h
theorem e_and (ha : E X a ta) (hb : E X (.BoolOp .And (b :: rest) pos) tb) : E X (.BoolOp .And (a :: b :: rest) pos) (pAndV ta tb) := by
  refine peImp (pe_andT ha hb) fun σ H Q h => ?_
  obtain ⟨P, env, K', S, t, k⟩ := h
  refine ⟨P, env, _, S, t, fun r e v P1 H1 t1 A1 R1 => ?_⟩
  obtain ⟨r, P1, t1, n1, A1, R1⟩ := settle_ok A1 R1 t1
  obtain ⟨d, t1, X1⟩ := rd_ok A1.sim R1 t1
  obtain ⟨b, tv, t1⟩ := truD_ok (mask_same _ _) X1 t1
  refine ⟨b, tv, ?_⟩
  cases b with
  | true => rw [if_pos rfl]; exact liftE.aft A1 t1 k
  | false => rw [if_neg Bool.false_ne_true]; exact k r e v P1 H1 t1 A1 (R1.res n1)
theorem e_or (ha : E X a ta) (hb : E X (.BoolOp .Or (b :: rest) pos) tb) : E X (.BoolOp .Or (a :: b :: rest) pos) (pOrV ta tb) := by
  refine peImp (pe_orT ha hb) fun σ H Q h => ?_
  obtain ⟨P, env, K', S, t, k⟩ := h
  refine ⟨P, env, _, S, t, fun r e v P1 H1 t1 A1 R1 => ?_⟩
  obtain ⟨r, P1, t1, n1, A1, R1⟩ := settle_ok A1 R1 t1
  obtain ⟨d, t1, X1⟩ := rd_ok A1.sim R1 t1
  obtain ⟨b, tv, t1⟩ := truD_ok (mask_same _ _) X1 t1
  refine ⟨b, tv, ?_⟩
  cases b with
  | true => rw [if_pos rfl]; exact k r e v P1 H1 t1 A1 (R1.res n1)
  | false => rw [if_neg Bool.false_ne_true]; exact liftE.aft A1 t1 k
theorem e_not (ha : E X a ta) : E X (.UnaryOp .Not a pos) (pNotV ta) := by
  refine peImp (pe_notT ha) fun σ H Q h => ?_
  obtain ⟨P, env, K', S, t, k⟩ := h
  refine ⟨P, env, _, S, t, fun r e v P1 H1 t1 A1 R1 => ?_⟩
  obtain ⟨d, t1, X1⟩ := rd_ok A1.sim R1.1 t1
  obtain ⟨b, tv, t1⟩ := truD_ok (mask_same _ _) X1 t1
  exact ⟨b, tv, k (.sh (.bl (!b))) e _ P1 H1 t1 A1 ⟨rfl, fun o a e => nomatch e⟩⟩

/-! ### arguments -/
def pNil : TAp := fun env K => K [] env
def pCons (te : TEp) (tr : TAp) : TAp := fun env K => te env fun r e => settle r fun r => tr e fun rs e2 => K (r :: rs) e2
theorem RvsOk.aft {K : PySem.W.Frag} {P P' : Addr → Prop} {env env' : Ev} {σ : L2.St} {H H' : Hp} (S : Sim K P env σ H) (A : Aft K P env σ H P' env' H') : ∀ {rs : List Rv} {vs : List V}, RvsOk K P env σ H rs vs → RvsOk K P' env' σ H' rs vs
  | [], _, h => h
  | r :: rs, _, ⟨v, vs, e, n, h1, h2⟩ => ⟨v, vs, e, n, h1.aft S A n, h2.aft S A⟩
theorem a_nil : A X [] pNil := paImp pa_nil fun σ H Q ⟨P, env, K', S, t, k⟩ => k [] env [] P H t (Aft.refl S) rfl
theorem a_cons (he : E X e te) (hr : A X es tA) (hs : starEach (e :: es) X.env = (false, eval e X.env) :: starEach es X.env := by rfl) : A X (e :: es) (pCons te tA) := by
  refine paImp (pa_cons he hr hs) fun σ H Q h => ?_
  obtain ⟨P, env, K', S, t, k⟩ := h
  refine ⟨P, env, _, S, t, fun r e v P1 H1 t1 A1 R1 => ?_⟩
  obtain ⟨r, P1, t1, n1, A1, R1⟩ := settle_ok A1 R1 t1
  refine ⟨P1, e, _, A1.sim, t1, fun rs e2 vs P2 H2 t2 A2 R2 => ?_⟩
  exact k (r :: rs) e2 (v :: vs) P2 H2 t2 (A1.trans A2) ⟨v, vs, rfl, n1, R1.aft A1.sim A2 n1, R2⟩
def rdAll (env : Ev) : List Rv → (List D → Prop) → Prop
  | [], k => k []
  | r :: rs, k => rd env r fun d => rdAll env rs fun ds => k (d :: ds)
def shAll (env : Ev) : List Rv → (List D → Ev → Prop) → Prop
  | [], k => k [] env
  | r :: rs, k => share env r fun d e => shAll e rs fun ds e2 => k (d :: ds) e2
def RtA (K : PySem.W.Frag) (Hs H : Hp) : List D → List V → Prop
  | [], vs => vs = []
  | d :: ds, vs => ∃ v r, vs = v :: r ∧ Rt K Hs H d v ∧ RtA K Hs H ds r
theorem rdAll_ok {K : PySem.W.Frag} {P : Addr → Prop} {env : Ev} {σ : L2.St} {H : Hp} (S : Sim K P env σ H) : ∀ {rs : List Rv} {vs : List V} {k : List D → Prop}, RvsOk K P env σ H rs vs → rdAll env rs k → ∃ ds, k ds ∧ RtA K (mask H P) H ds vs
  | [], _, k, h, q => ⟨[], q, h⟩
  | r :: rs, _, k, ⟨v, vs, e, n, h1, h2⟩, q => by
    obtain ⟨d, q, X1⟩ := rd_ok S h1 q
    obtain ⟨ds, q, X2⟩ := rdAll_ok S h2 q
    exact ⟨d :: ds, q, v, vs, e, X1, X2⟩
theorem shAll_ok {K : PySem.W.Frag} {σ : L2.St} {H1 : Hp} : ∀ {rs : List Rv} {vs : List V} {k : List D → Ev → Prop} {P1 : Addr → Prop} {env1 : Ev}, Sim K P1 env1 σ H1 → RvsOk K P1 env1 σ H1 rs vs → shAll env1 rs k →
    ∃ ds env2 P2, k ds env2 ∧ Aft K P1 env1 σ H1 P2 env2 H1 ∧ RA K (mask H1 P2) ds vs
  | [], _, k, P1, env1, S, h, q => ⟨[], env1, P1, q, Aft.refl S, h⟩
  | r :: rs, _, k, P1, env1, S, ⟨v, vs, e, n, h1, h2⟩, q => by
    obtain ⟨d, env2, P2, q, A2, X1⟩ := share_ok (Aft.refl S) (h1.res n) q
    obtain ⟨ds, env3, P3, q, A3, X2⟩ := shAll_ok A2.sim (h2.aft S A2) q
    exact ⟨d :: ds, env3, P3, q, A2.trans A3, v, vs, e, R.mono (A3.step.masks A2.sim) _ _ X1, X2⟩
theorem RA.toRtA {K : PySem.W.Frag} {Hs H : Hp} (e : Same Hs H) : ∀ {ds : List D} {vs : List V}, RA K Hs ds vs → RtA K Hs H ds vs
  | [], _, h => h
  | d :: ds, _, ⟨v, r, e1, h1, h2⟩ => ⟨v, r, e1, R.top e h1, RA.toRtA e h2⟩

/-! ### displays -/
def pTup (t : TAp) : TEp := fun env K => t env fun rs e => shAll e rs fun ds e2 => ds.length ≤ sizeLine ∧ K (.sh (.tup ds)) e2
def pLst (t : TAp) : TEp := fun env K => t env fun rs e => shAll e rs fun ds e2 => ds.length ≤ sizeLine ∧ K (.own (.lst ds)) e2
theorem same_new {H : Hp} {p : Addr} {o : HO} (h : H p = none) : Same H (upd H p o) := fun b x e => by
  rw [upd_ne (ne_of_none e h)]
  exact e
theorem newTup {K : PySem.W.Frag} {P : Addr → Prop} {H : Hp} {p : Addr} {ds : List D} {xs : List V} (hd : ∀ a, P a → H a ≠ none) (h : H p = none) (r : RA K (mask H P) ds xs) : NewRes K P H P (upd H p (.tup xs)) (.sh (.tup ds)) (.ref p) := by
  have np : ¬ P p := fun z => hd p z h
  refine ⟨same_new h, rfl, p, xs, rfl, .inl (.inl ?_), RA.mono (mask_le fun a o h1 h2 => ⟨h1, same_new h a o h2⟩) _ _ r⟩
  rw [mask_yes np, upd_same]
theorem newLst {K : PySem.W.Frag} {P : Addr → Prop} {H : Hp} {p : Addr} {ds : List D} {xs : List V} (hd : ∀ a, P a → H a ≠ none) (h : H p = none) (r : RA K (mask H P) ds xs) : NewRes K P H (fun b => P b ∨ b = p) (upd H p (.lst xs)) (.own (.lst ds)) (.ref p) := by
  have np : ¬ P p := fun z => hd p z h
  refine ⟨same_new h, p, rfl, h, rfl, xs, upd_same, RA.mono (mask_le fun a o h1 h2 => ⟨fun z => z.elim h1 fun e => ?_, same_new h a o h2⟩) _ _ r⟩
  subst e
  rw [h] at h2; cases h2
theorem e_tup {x1} (h : A X es tA) : E X (.Tuple es x1 pos) (pTup tA) := by
  refine peImp (pe_tup h) fun σ H Q h => ?_
  obtain ⟨P, env, K', S, t, k⟩ := h
  refine ⟨P, env, _, S, t, fun rs e vs P1 H1 t1 A1 R1 => ?_⟩
  obtain ⟨ds, e2, P2, ⟨hz, t1⟩, A2, X2⟩ := shAll_ok A1.sim R1 t1
  have A3 := A1.trans A2
  refine ⟨by rw [← X2.len]; exact hz, fun p hp => ?_⟩
  have n := newTup A3.sim.dom hp X2
  exact k _ e2 _ _ _ t1 (A3.trans (n.aft A3.sim)) (Res.aft A3 (n.res A3.sim))
theorem e_lst (h : A X es tA) : E X (.List es pos) (pLst tA) := by
  refine peImp (pe_lst h) fun σ H Q h => ?_
  obtain ⟨P, env, K', S, t, k⟩ := h
  refine ⟨P, env, _, S, t, fun rs e vs P1 H1 t1 A1 R1 => ?_⟩
  obtain ⟨ds, e2, P2, ⟨hz, t1⟩, A2, X2⟩ := shAll_ok A1.sim R1 t1
  have A3 := A1.trans A2
  refine ⟨by rw [← X2.len]; exact hz, fun p hp => ?_⟩
  have n := newLst A3.sim.dom hp X2
  exact k _ e2 _ _ _ t1 (A3.trans (n.aft A3.sim)) (Res.aft A3 (n.res A3.sim))

/-! ### calls of built-ins, by values -/
def CallP (X : Cx) (F : Value) (f : List D → (Rv → Prop) → Prop) : Prop :=
  ∃ r : List V → Hp → VK → Prop, CallR X F r ∧ ∀ P H ds vs Kf Q, (∀ a, P a → H a ≠ none) → RtA X.K (mask H P) H ds vs → f ds Kf → (∀ q w P' H', Kf q → NewRes X.K P H P' H' q w → Q w H') → r vs H Q
def pCB (f : List D → (Rv → Prop) → Prop) (t : TAp) : TEp := fun env K => t env fun rs e => rdAll e rs fun ds => f ds fun r => K r e
theorem cb_ok {K : PySem.W.Frag} {f : List D → (Rv → Prop) → Prop} {r : List V → Hp → VK → Prop} {σ : L2.St} {H : Hp} {Q : VK}
    (hr : ∀ P H ds vs Kf Q, (∀ a, P a → H a ≠ none) → RtA K (mask H P) H ds vs → f ds Kf → (∀ q w P' H', Kf q → NewRes K P H P' H' q w → Q w H') → r vs H Q)
    (h : liftE K (pCB f tA) σ H Q) : tCB r (liftA K tA) σ H Q := by
  obtain ⟨P, env, K', S, t, k⟩ := h
  refine ⟨P, env, _, S, t, fun rs e2 vs P2 H2 t2 A2 R2 => ?_⟩
  obtain ⟨ds, t2, Y1⟩ := rdAll_ok A2.sim R2 t2
  refine hr P2 H2 ds vs _ _ A2.sim.dom Y1 t2 fun q w P3 H3 kq n => ?_
  exact k q e2 w P3 H3 kq (A2.trans (n.aft A2.sim)) (Res.aft A2 (n.res A2.sim))
theorem e_callB {id : String} {x : Str} {p : Pos} {f} (hc : CallP X (.builtin id) f) (hg : Gl X x) (hm : X.mg x = none) (hv : bootBuiltins x = some (.builtin id)) (ha : A X (e :: es) tA) (hn : x ≠ "__name__" := by decide) (hdb : (x == ("__debug__" : Str)) = false := by decide)
    (he : starEach (e :: es) X.env = (false, eval e X.env) :: starEach es X.env := by rfl) (hpl : (backTo pos (starEach es X.env)).any (·.1) = false := by rfl) : E X (.Call (.Name x p) (e :: es) [] pos) (pCB f tA) := by
  obtain ⟨r, ho, hr⟩ := hc
  exact peImp (pe_callB ho hg hm hv ha hn hdb he hpl) fun σ H Q h => cb_ok hr h
theorem e_callTy {id : String} {x : Str} {p : Pos} {f} (hc : CallP X (.type id) f) (hg : Gl X x) (hm : X.mg x = none) (hv : bootBuiltins x = some (.type id)) (ha : A X (e :: es) tA) (hn : x ≠ "__name__" := by decide) (hdb : (x == ("__debug__" : Str)) = false := by decide)
    (he : starEach (e :: es) X.env = (false, eval e X.env) :: starEach es X.env := by rfl) (hpl : (backTo pos (starEach es X.env)).any (·.1) = false := by rfl) : E X (.Call (.Name x p) (e :: es) [] pos) (pCB f tA) := by
  obtain ⟨r, ho, hr⟩ := hc
  exact peImp (pe_callTy ho hg hm hv ha hn hdb he hpl) fun σ H Q h => cb_ok hr h
end
end PL
namespace PL
open PySem PySem.Spec PyProof.Rows L2

/-! ### slots are written -/
section
variable {K : PySem.W.Frag} {P P' : Addr → Prop} {env env' : Ev} {σ σ' : L2.St} {H H' : Hp}
theorem own_set {i : Nat} {s : Sl} {v : V} {c : Addr} {j : Nat} (hl : env.length = σ.length) (h : OwnI (env.set i s) (σ.set i (some v)) c j) : (j ≠ i ∧ OwnI env σ c j) ∨ (j = i ∧ s.ow? ≠ none ∧ v = .ref c) := by
  obtain ⟨s', o', q1, q2, q3⟩ := h
  by_cases hj : i = j
  · subst hj
    refine .inr ⟨rfl, ?_⟩
    have hi : i < (env.set i s).length := (List.getElem?_eq_some_iff.mp q1).1
    rw [List.length_set] at hi
    rw [List.getElem?_set_self hi] at q1
    rw [List.getElem?_set_self (hl ▸ hi)] at q3
    cases q1
    cases q3
    exact ⟨by rw [q2]; simp, rfl⟩
  · rw [List.getElem?_set_ne hj] at q1 q3
    exact .inl ⟨fun z => hj z.symm, s', o', q1, q2, q3⟩
/-- a slot is stored: shared data, or a private object of no slot -/
theorem Sim.put (S : Sim K P env σ H) {i : Nat} {s : Sl} {v : V} (hs : SlOk K P H (some (some v)) s) (hn : ∀ a, s.ow? ≠ none → v = .ref a → ¬ OwnA env σ a) : Sim K P (env.set i s) (σ.set i (some v)) H := by
  refine ⟨by simp [S.len], S.dom, fun j s' e => ?_, fun j l c q1 q2 => ?_⟩
  · by_cases hj : i = j
    · subst hj
      have hi : i < (env.set i s).length := (List.getElem?_eq_some_iff.mp e).1
      rw [List.length_set] at hi
      rw [List.getElem?_set_self hi] at e
      cases e
      rw [List.getElem?_set_self (S.len ▸ hi)]
      exact hs
    · rw [List.getElem?_set_ne hj] at e ⊢
      exact S.slot j s' e
  · rcases own_set S.len q1 with ⟨z1, z2⟩ | ⟨z1, z2, z3⟩
    · rcases own_set S.len q2 with ⟨w1, w2⟩ | ⟨w1, w2, w3⟩
      · exact S.inj j l c z2 w2
      · exact absurd ⟨j, z2⟩ (hn c w2 w3)
    · rcases own_set S.len q2 with ⟨w1, w2⟩ | ⟨w1, w2, w3⟩
      · exact absurd ⟨l, w2⟩ (hn c z2 z3)
      · rw [z1, w1]
theorem Sim.putStep (S : Sim K P env σ H) {i : Nat} {s : Sl} {v : V} : ∀ a, OwnA (env.set i s) (σ.set i (some v)) a → OwnA env σ a ∨ (s.ow? ≠ none ∧ v = .ref a) := fun a ⟨j, h⟩ => by
  rcases own_set S.len h with ⟨_, z2⟩ | ⟨z1, z2, z3⟩
  · exact .inl ⟨j, z2⟩
  · exact .inr ⟨z2, z3⟩
/-- a slot is forgotten -/
theorem Sim.forget (S : Sim K P env σ H) (i : Nat) : Sim K P (env.set i .un) σ H ∧ ∀ a, OwnA (env.set i .un) σ a → OwnA env σ a := by
  have own' : ∀ c j, OwnI (env.set i .un) σ c j → OwnI env σ c j := fun c j ⟨s', o', q1, q2, q3⟩ => by
    by_cases hj : i = j
    · subst hj
      have hi : i < (env.set i .un).length := (List.getElem?_eq_some_iff.mp q1).1
      rw [List.length_set] at hi
      rw [List.getElem?_set_self hi] at q1
      cases q1
      cases q2
    · rw [List.getElem?_set_ne hj] at q1
      exact ⟨s', o', q1, q2, q3⟩
  refine ⟨⟨by simp [S.len], S.dom, fun j s' e => ?_, fun j l c q1 q2 => S.inj j l c (own' c j q1) (own' c l q2)⟩, fun a ⟨j, h⟩ => ⟨j, own' a j h⟩⟩
  by_cases hj : i = j
  · subst hj
    have hi : i < (env.set i .un).length := (List.getElem?_eq_some_iff.mp e).1
    rw [List.length_set] at hi
    rw [List.getElem?_set_self hi] at e
    cases e
    trivial
  · rw [List.getElem?_set_ne hj] at e
    exact S.slot j s' e
/-- an owned object is written, new objects may have come -/
theorem Sim.wr (S : Sim K P env σ H) {i : Nat} {s s' : Sl} {o o' : Ow} {a : Addr} (e : env[i]? = some s) (eo : s.ow? = some o) (hs : (∃ o1, s = .own o1) ∧ s' = .own o' ∨ (∃ o1, s = .io o1) ∧ s' = .io o') (hσ : σ[i]? = some (some (.ref a)))
    (sm : ∀ b x, H b = some x → b ≠ a → H' b = some x) (hP : ∀ b, H b ≠ none → (P' b ↔ P b)) (hd : ∀ b, P' b → H' b ≠ none) (n : OwnAt K (mask H' P') (H' a) o') :
    Sim K P' (env.set i s') σ H' ∧ Step P env σ H P' (env.set i s') σ H' ∧ (∀ j : Nat, env[j]? ≠ some Sl.un → (env.set i s')[j]? ≠ some Sl.un) ∧ ∀ c, OwnA (env.set i s') σ c → OwnA env σ c := by
  have hi : i < env.length := (List.getElem?_eq_some_iff.mp e).1
  have Pa : P a := S.ownP ⟨i, s, o, e, eo, hσ⟩
  have Pa' : P' a := (hP a (S.dom a Pa)).mpr Pa
  have mm : Same (mask H P) (mask H' P') := mask_le fun b x h1 h2 => ⟨fun z => h1 ((hP b (by rw [h2]; simp)).mp z), sm b x h2 (show b ≠ a from fun z => h1 (by rw [z]; exact Pa))⟩
  have eow : s'.ow? = some o' := by rcases hs with ⟨_, h⟩ | ⟨_, h⟩ <;> (rw [h]; rfl)
  have own' : ∀ c j, OwnI (env.set i s') σ c j → OwnI env σ c j := fun c j ⟨s1, o1, q1, q2, q3⟩ => by
    by_cases hj : i = j
    · subst hj
      exact ⟨s, o, e, eo, q3⟩
    · rw [List.getElem?_set_ne hj] at q1
      exact ⟨s1, o1, q1, q2, q3⟩
  refine ⟨⟨by simp [S.len], hd, fun j s1 e1 => ?_, fun j l c q1 q2 => S.inj j l c (own' c j q1) (own' c l q2)⟩, ⟨fun c x h nn => ?_, fun c h _ => hP c h, fun c ⟨j, h⟩ => .inl ⟨j, own' c j h⟩, fun c h => ?_, fun j o1 c q1 q2 => ?_⟩, fun j hj => ?_, fun c ⟨j, h⟩ => ⟨j, own' c j h⟩⟩
  · by_cases hj : i = j
    · subst hj
      rw [List.getElem?_set_self hi] at e1
      cases e1
      rcases hs with ⟨_, h⟩ | ⟨_, h⟩
      · subst h; exact ⟨a, hσ, Pa', n⟩
      · subst h; exact ⟨a, hσ, Pa', n⟩
    · rw [List.getElem?_set_ne hj] at e1
      have sl := S.slot j s1 e1
      have far : ∀ b o1, s1.ow? = some o1 → σ[j]? = some (some (V.ref b)) → b ≠ a := fun b o1 z1 z2 z => hj (S.inj i j a ⟨s, o, e, eo, hσ⟩ (z ▸ ⟨s1, o1, e1, z1, z2⟩))
      have keepO : ∀ o1, s1.ow? = some o1 → (∃ b, σ[j]? = some (some (V.ref b)) ∧ P b ∧ OwnAt K (mask H P) (H b) o1) → ∃ b, σ[j]? = some (some (V.ref b)) ∧ P' b ∧ OwnAt K (mask H' P') (H' b) o1 := fun o1 z ⟨b, h1, h2, h3⟩ => by
        obtain ⟨x, ex⟩ := h3.some
        refine ⟨b, h1, (hP b (S.dom b h2)).mpr h2, ?_⟩
        rw [sm b x ex (far b o1 z h1), ← ex]
        exact h3.mono mm
      cases s1 with
      | un => trivial
      | sh d => obtain ⟨v, h1, h2⟩ := sl; exact ⟨v, h1, R.mono mm _ _ h2⟩
      | own o1 => exact keepO o1 rfl sl
      | io o1 => exact keepO o1 rfl sl
  · exact sm c x h (show c ≠ a from fun z => nn (by rw [z]; exact ⟨i, s, o, e, eo, hσ⟩))
  · by_cases hb' : c = a
    · rw [hb']; exact hd a Pa'
    · obtain ⟨x, ex⟩ := Option.ne_none_iff_exists'.mp h
      rw [sm c x ex hb']; simp
  · by_cases hj : i = j
    · subst hj
      rw [List.getElem?_set_self hi] at q1
      cases q1
      rcases hs with ⟨_, h⟩ | ⟨⟨o2, h⟩, _⟩
      · cases h
      · subst h; exact ⟨o2, e, q2⟩
    · rw [List.getElem?_set_ne hj] at q1
      exact ⟨o1, q1, q2⟩
  · by_cases hi' : i = j
    · subst hi'
      rw [List.getElem?_set_self hi]
      rcases hs with ⟨_, h⟩ | ⟨_, h⟩ <;> (rw [h]; intro z; cases z)
    · rw [List.getElem?_set_ne hi']; exact hj
theorem Sim.write (S : Sim K P env σ H) {i : Nat} {s s' : Sl} {o' : Ow} {a : Addr} {ho : HO} {o : Ow} (e : env[i]? = some s) (eo : s.ow? = some o) (hs : (∃ o1, s = .own o1) ∧ s' = .own o' ∨ (∃ o1, s = .io o1) ∧ s' = .io o') (hσ : σ[i]? = some (some (.ref a))) (n : OwnAt K (mask H P) (some ho) o') :
    Sim K P (env.set i s') σ (upd H a ho) ∧ Step P env σ H P (env.set i s') σ (upd H a ho) ∧ (∀ j : Nat, env[j]? ≠ some Sl.un → (env.set i s')[j]? ≠ some Sl.un) ∧ ∀ c, OwnA (env.set i s') σ c → OwnA env σ c := by
  have Pa : P a := S.ownP ⟨i, s, o, e, eo, hσ⟩
  refine S.wr e eo hs hσ (fun b x h1 h2 => by rw [upd_ne h2]; exact h1) (fun _ _ => Iff.rfl) (fun b hb => ?_) ?_
  · by_cases hb' : b = a
    · rw [hb', upd_same]; simp
    · rw [upd_ne hb']; exact S.dom b hb
  · rw [upd_same]
    exact n.mono (mask_le fun b x h1 h2 => ⟨h1, by rw [upd_ne (show b ≠ a from fun z => h1 (by rw [z]; exact Pa))]; exact h2⟩)
theorem io_set {i j : Nat} {s : Sl} {o : Ow} {v : V} {c : Addr} (hn : ∀ o, s ≠ .io o) (q1 : (env.set i s)[j]? = some (.io o)) (q2 : (σ.set i (some v))[j]? = some (some (.ref c))) : env[j]? = some (.io o) ∧ σ[j]? = some (some (.ref c)) := by
  by_cases hj : i = j
  · subst hj
    have hi : i < (env.set i s).length := (List.getElem?_eq_some_iff.mp q1).1
    rw [List.length_set] at hi
    rw [List.getElem?_set_self hi] at q1
    cases q1
    exact absurd rfl (hn o)
  · rw [List.getElem?_set_ne hj] at q1 q2
    exact ⟨q1, q2⟩
theorem nio_sh (d : D) : ∀ o, Sl.sh d ≠ .io o := fun o z => by cases z
theorem nio_own (o' : Ow) : ∀ o, Sl.own o' ≠ .io o := fun o z => by cases z
theorem io_un {i j : Nat} {o : Ow} (q1 : (env.set i .un)[j]? = some (.io o)) : env[j]? = some (.io o) := by
  by_cases hj : i = j
  · subst hj
    have hi : i < (env.set i .un).length := (List.getElem?_eq_some_iff.mp q1).1
    rw [List.length_set] at hi
    rw [List.getElem?_set_self hi] at q1
    cases q1
  · rw [List.getElem?_set_ne hj] at q1
    exact q1
end

/-! ### targets -/
abbrev TGp := D → Ev → (Ev → Prop) → Prop
abbrev TGsp := List D → Ev → (Ev → Prop) → Prop
def liftG (K : PySem.W.Frag) (us : List Nat) (g : TGp) : TG := fun v σ H Q => ∃ P env d K', Sim K P env σ H ∧ R K (mask H P) d v ∧ g d env K' ∧
  ∀ env' σ', K' env' → Sim K P env' σ' H → Step P env σ H P env' σ' H → ((∀ j : Nat, j ∉ us → σ'[j]? = σ[j]? ∧ env'[j]? = env[j]?) ∧ σ'.length = σ.length) → Q σ' H
def liftGs (K : PySem.W.Frag) (us : List Nat) (g : TGsp) : TGs := fun vs σ H Q => ∃ P env ds K', Sim K P env σ H ∧ RA K (mask H P) ds vs ∧ g ds env K' ∧
  ∀ env' σ', K' env' → Sim K P env' σ' H → Step P env σ H P env' σ' H → ((∀ j : Nat, j ∉ us → σ'[j]? = σ[j]? ∧ env'[j]? = env[j]?) ∧ σ'.length = σ.length) → Q σ' H
def G (X : Cx) (tg : Expr) (us : List Nat) (g : TGp) : Prop := PG X tg (liftG X.K us g)
def Gs (X : Cx) (tg : List Expr) (us : List Nat) (g : TGsp) : Prop := PGs X tg (liftGs X.K us g)
theorem pgImp {X : Cx} {e : Expr} {t t' : TG} (h : PG X e t) (i : ∀ v σ H Q, t' v σ H Q → t v σ H Q) : PG X e t' := ⟨fun pins s σ H x v Q I r q => h.run pins s σ H x v Q I r (i _ _ _ _ q)⟩
theorem pgsImp {X : Cx} {e : List Expr} {t t' : TGs} (h : PGs X e t) (i : ∀ v σ H Q, t' v σ H Q → t v σ H Q) : PGs X e t' := ⟨fun pins s σ H x v Q I r q => h.run pins s σ H x v Q I r (i _ _ _ _ q)⟩
section
variable {X : Cx} {pos : Pos} {e : Expr} {es : List Expr} {us us2 : List Nat}
def gNm (i : Nat) : TGp := fun d env K => K (env.set i (.sh d))
theorem Sim.putSh {K : PySem.W.Frag} {P : Addr → Prop} {env : Ev} {σ : L2.St} {H : Hp} (S : Sim K P env σ H) {i : Nat} {d : D} {v : V} (r : R K (mask H P) d v) : Sim K P (env.set i (.sh d)) (σ.set i (some v)) H ∧ Step P env σ H P (env.set i (.sh d)) (σ.set i (some v)) H := by
  refine ⟨S.put ⟨v, rfl, r⟩ fun a h => absurd rfl h, ⟨fun _ _ h _ => h, fun _ _ _ => Iff.rfl, fun a h => ?_, fun _ h => h, fun j o c q1 q2 => ⟨o, io_set (nio_sh d) q1 q2⟩⟩⟩
  rcases S.putStep a h with z | z
  · exact .inl z
  · exact absurd rfl z.1
theorem g_nm {i : Nat} {x : Str} (hN : X.N.Nodup) (hi : X.N[i]? = some x := by rfl) (hx : Loc X.env.scope x := by first | exact .inl rfl | exact .inr rfl) (hf : X.fn x = true ∨ X.env.scope.names.lookup x = some .local := by first | exact .inl rfl | exact .inr rfl) : G X (.Name x pos) [i] (gNm i) := by
  refine pgImp (pg_name hN hi hx hf) fun v σ H Q h => ?_
  obtain ⟨P, env, d, K', S, r, t, k⟩ := h
  refine k _ _ t (S.putSh r).1 (S.putSh r).2 ⟨fun j hj => ?_, by simp⟩
  have hj' : i ≠ j := fun z => hj (by simp [z])
  rw [List.getElem?_set_ne hj', List.getElem?_set_ne hj']
  exact ⟨rfl, rfl⟩
def gTp (n : Nat) (gs : TGsp) : TGp := fun d env K => match d with
  | .tup ds => ds.length = n ∧ gs ds env K
  | _ => False
def gN : TGsp := fun ds env K => match ds with
  | [] => K env
  | _ => False
def gC (g : TGp) (gs : TGsp) : TGsp := fun ds env K => match ds with
  | d :: r => g d env fun e => gs r e K
  | [] => False
theorem gs_nil : Gs X [] [] gN := by
  refine pgsImp pgs_nil fun v σ H Q h => ?_
  obtain ⟨P, env, ds, K', S, r, t, k⟩ := h
  cases ds with
  | nil => exact ⟨r, k _ _ t S Step.refl ⟨fun _ _ => ⟨rfl, rfl⟩, rfl⟩⟩
  | cons d r' => exact t.elim
theorem gs_cons {g : TGp} {gs : TGsp} (h1 : G X e us g) (h2 : Gs X es us2 gs) (hs : (assignEach (e :: es) X.env).map (·.2) = assign e X.env :: (assignEach es X.env).map (·.2) := by rfl) : Gs X (e :: es) (us ++ us2) (gC g gs) := by
  refine pgsImp (pgs_cons h1 h2 hs) fun v σ H Q h => ?_
  obtain ⟨P, env, ds, K', S, r, t, k⟩ := h
  cases ds with
  | nil => exact t.elim
  | cons d ds =>
    obtain ⟨v, vr, e1, r1, r2⟩ := r
    refine ⟨v, vr, e1, P, env, d, _, S, r1, t, fun e1 σ1 t1 S1 st1 f1 => ⟨P, e1, ds, K', S1, r2, t1, fun e2 σ2 t2 S2 st2 f2 => k e2 σ2 t2 S2 (st1.trans st2) ⟨fun j hj => ?_, f2.2.trans f1.2⟩⟩⟩
    simp only [List.mem_append, not_or] at hj
    exact ⟨(f2.1 j hj.2).1.trans (f1.1 j hj.1).1, (f2.1 j hj.2).2.trans (f1.1 j hj.1).2⟩
theorem SqT.unmask {K : PySem.W.Frag} {H : Hp} {P : Addr → Prop} {a : Addr} {xs : List V} (h : SqT K (mask H P) a xs) : SqT K H a xs := Same.seqT (mask_same H P) h
theorem g_tp {gs : TGsp} {n k : Nat} (hc : X.calm = true) (h : Gs X es us gs) (hn : (assignEach es X.env).length = n := by rfl) (hst : (assignEach es X.env).findIdx? (·.1) = none := by rfl) : G X (.Tuple es k pos) us (gTp n gs) := by
  refine pgImp (pg_tup hc h hn hst) fun v σ H Q h => ?_
  obtain ⟨P, env, d, K', S, r, t, k⟩ := h
  cases d with
  | tup ds =>
    obtain ⟨a, xs, e1, h1, h2⟩ := r
    exact ⟨a, xs, e1, SqT.unmask h1, by rw [← h2.len]; exact t.1, P, env, ds, K', S, h2, t.2, k⟩
  | _ => exact t.elim

/-! ### statements -/
variable {a b c : Expr} {st : Stmt} {sts : List Stmt} {te ta tb tc : TEp} {tA : TAp} {t u : TSp} {tt : TTp}
def sNx : TSp := fun D' env => D'.nx env
def sBk : TSp := fun D' env => D'.bk env
def sCt : TSp := fun D' env => D'.ct env
def sSq (t u : TSp) : TSp := fun D' env => t { D' with nx := fun e => u D' e } env
theorem ss_nil : SS X [] sNx := pssImp pss_nil fun D' σ H ⟨P, env, K', S, t, f⟩ => f.nx _ _ _ _ t S Step.refl
theorem s_pass : S X (.Pass pos) sNx := psImp ps_pass fun D' σ H ⟨P, env, K', S, t, f⟩ => f.nx _ _ _ _ t S Step.refl
theorem s_break : S X (.Break pos) sBk := psImp ps_break fun D' σ H ⟨P, env, K', S, t, f⟩ => f.bk _ _ _ _ t S Step.refl
theorem s_cont : S X (.Continue pos) sCt := psImp ps_continue fun D' σ H ⟨P, env, K', S, t, f⟩ => f.ct _ _ _ _ t S Step.refl
theorem ss_one (h : S X st t) : SS X [st] t := pss_one h
theorem ss_cons (h : S X st t) (h2 : SS X sts u) : SS X (st :: sts) (sSq t u) := by
  refine pssImp (pss_cons h h2) fun D' σ H ⟨P, env, K', S, t, f⟩ => ?_
  exact ⟨P, env, _, S, t, ⟨fun e s p h' k S' q => ⟨p, e, K', S', k, f.step q⟩, f.bk, f.ct, f.rt⟩⟩
def sEx (te : TEp) : TSp := fun D' env => te env fun _ e => D'.nx e
theorem s_ex (he : E X e te) (hs : swapsWith e none pos.line X.env = pure false := by rfl) : S X (.Expr e pos) (sEx te) := by
  refine psImp (ps_expr he hs) fun D' σ H ⟨P, env, K', S, t, f⟩ => ?_
  exact ⟨P, env, _, S, t, fun r e v P1 H1 k A1 R1 => f.nx _ _ _ _ k A1.sim A1.step⟩
/-- what a def hands back -/
def sRet (te : TEp) : TSp := fun D' env => te env fun r e => match r with
  | .sh d => D'.rt (.sh d) e
  | .own o => D'.rt (.own o) e
  | .bor i => match e[i]? with
    | some (.sh d) => D'.rt (.sh d) e
    | some (.own o) => D'.rt (.own o) (e.set i .un)
    | _ => False
theorem s_ret (he : E X e te) : S X (.Return (some e) pos) (sRet te) := by
  refine psImp (ps_ret he) fun D' σ H ⟨P, env, K', S, t, f⟩ => ?_
  refine ⟨P, env, _, S, t, fun r e v P1 H1 k A1 R1 => ?_⟩
  cases r with
  | sh d => exact f.rt _ _ _ _ _ _ k A1.sim A1.step R1.1 R1.2 fun i z => nomatch z
  | own o => exact f.rt _ _ _ _ _ _ k A1.sim A1.step R1.1 R1.2 fun i z => nomatch z
  | bor i =>
    obtain ⟨⟨hσ, _⟩, _⟩ := R1
    cases e1 : e[i]? with
    | none => simp only [e1] at k
    | some s =>
      simp only [e1] at k
      have sl := A1.sim.slot i s e1
      cases s with
      | un => exact k.elim
      | io o => exact k.elim
      | sh d =>
        obtain ⟨v', h1, h2⟩ := sl
        rw [hσ] at h1; cases h1
        exact f.rt (.sh d) e v σ P1 H1 k A1.sim A1.step h2 (fun o a z => nomatch z) fun i z => nomatch z
      | own o =>
        obtain ⟨a, h1, h2, h3⟩ := sl
        rw [hσ] at h1; cases h1
        obtain ⟨S', own'⟩ := A1.sim.forget i
        have oi : OwnI e σ a i := ⟨_, _, e1, rfl, hσ⟩
        refine f.rt (.own o) _ (.ref a) σ P1 H1 k S' ⟨A1.step.keep, A1.step.priv, fun c h => A1.step.own c (own' c h), A1.step.there, fun j o c q1 q2 => A1.step.io j o c (io_un q1) q2⟩ ⟨a, rfl, h2, fun ⟨j, s', o', q1, q2, q3⟩ => ?_, h3⟩ (fun o' b z1 z2 => ?_) fun i z => nomatch z
        · by_cases hj : i = j
          · subst hj
            rw [List.getElem?_set_self (List.getElem?_eq_some_iff.mp e1).1] at q1
            cases q1; cases q2
          · rw [List.getElem?_set_ne hj] at q1
            exact hj (A1.sim.inj i j a oi ⟨s', o', q1, q2, q3⟩)
        · cases z2
          exact (A1.step.own a ⟨i, oi⟩).symm
def sRetN : TSp := fun D' env => D'.rt (.sh .non) env
theorem s_retN : S X (.Return none pos) sRetN := psImp ps_retN fun D' σ H ⟨P, env, K', S, t, f⟩ => f.rt (.sh .non) _ _ _ _ _ t S Step.refl rfl (fun o a z => nomatch z) fun i z => nomatch z
def sIf (c : TTp) (t u : TSp) : TSp := fun D' env => c env fun b e => match b with
  | true => t D' e
  | false => u D' e
theorem s_if {p q : List Stmt} (hc : T X c tt) (ha : SS X p t) (hb : SS X q u) : S X (.If c p q pos) (sIf tt t u) := by
  refine psImp (ps_if hc ha hb) fun D' σ H ⟨P, env, K', S, t, f⟩ => ?_
  refine ⟨P, env, _, S, t, fun b e P1 H1 k A1 => ?_⟩
  cases b with
  | true => rw [if_pos rfl]; exact ⟨P1, e, K', A1.sim, k, f.step A1.step⟩
  | false => rw [if_neg Bool.false_ne_true]; exact ⟨P1, e, K', A1.sim, k, f.step A1.step⟩
/-- a stored result -/
def put (i : Nat) (r : Rv) (e : Ev) (K : Ev → Prop) : Prop := match r with
  | .own o => K (e.set i (.own o))
  | .sh d => K (e.set i (.sh d))
  | .bor j => share e (.bor j) fun d e2 => K (e2.set i (.sh d))
theorem put_ok {K : PySem.W.Frag} {P P1 : Addr → Prop} {env e : Ev} {σ : L2.St} {H H1 : Hp} {r : Rv} {v : V} {i : Nat} {k : Ev → Prop} (A1 : Aft K P env σ H P1 e H1) (R1 : Res K env σ H P1 e H1 r v) (q : put i r e k) :
    ∃ e' P', k e' ∧ Sim K P' e' (σ.set i (some v)) H1 ∧ Step P env σ H P' e' (σ.set i (some v)) H1 := by
  have fromSh : ∀ (d : D) (e2 : Ev) (P2 : Addr → Prop), Aft K P env σ H P2 e2 H1 → R K (mask H1 P2) d v → Sim K P2 (e2.set i (.sh d)) (σ.set i (some v)) H1 ∧ Step P env σ H P2 (e2.set i (.sh d)) (σ.set i (some v)) H1 := fun d e2 P2 A2 r2 =>
    ⟨(A2.sim.putSh r2).1, A2.step.trans (A2.sim.putSh r2).2⟩
  cases r with
  | sh d => exact ⟨_, P1, q, fromSh d e P1 A1 R1.1⟩
  | bor j =>
    obtain ⟨d, e2, P2, k2, A2, r2⟩ := share_ok A1 R1 (k := fun d e2 => k (e2.set i (.sh d))) q
    exact ⟨_, P2, k2, fromSh d e2 P2 A2 r2⟩
  | own o =>
    obtain ⟨a, rfl, h1, h2, h3⟩ := R1.1
    refine ⟨_, P1, q, A1.sim.put ⟨a, rfl, h1, h3⟩ fun b _ z => ?_, ⟨A1.step.keep, A1.step.priv, fun b hb => ?_, A1.step.there, fun j o1 c q1 q2 => (fun z => A1.step.io j o1 c z.1 z.2) (io_set (nio_own o) q1 q2)⟩⟩
    · cases z; exact h2
    · rcases A1.sim.putStep b hb with z | z
      · exact A1.step.own b z
      · cases z.2
        exact (R1.2 o a rfl rfl).symm
def sSet (i : Nat) (te : TEp) : TSp := fun D' env => te env fun r e => put i r e D'.nx
theorem set_fits {K : PySem.W.Frag} {i : Nat} {D' : Ends} {σ : L2.St} {H : Hp} (h : liftS K (sSet i te) D' σ H) : tAsg (liftE K te) (gName i) D' σ H := by
  obtain ⟨P, env, K', S, t, f⟩ := h
  refine ⟨P, env, _, S, t, fun r e v P1 H1 k A1 R1 => ?_⟩
  obtain ⟨e', P', k', S', st'⟩ := put_ok A1 R1 k
  exact f.nx _ _ _ _ k' S' st'
theorem s_set (i : Nat) {x : Str} {pos' : Pos} (hN : X.N.Nodup) (he : E X e te) (hi : X.N[i]? = some x := by rfl) (hx : Loc X.env.scope x := by first | exact .inl rfl | exact .inr rfl) (hs : swapsWith e (some (.Name x pos')) pos.line X.env = pure false := by rfl)
    (hf : X.fn x = true ∨ X.env.scope.names.lookup x = some .local := by first | exact .inl rfl | exact .inr rfl) : S X (.Assign [.Name x pos'] e pos) (sSet i te) := psImp (ps_set hN hi hx he hs hf) fun D' σ H h => set_fits h
/-- a pattern on the left -/
def sAsg (te : TEp) (g : TGp) : TSp := fun D' env => te env fun r e => share e r fun d e2 => g d e2 D'.nx
theorem s_asg {tg : Expr} {g : TGp} (he : E X e te) (hg : G X tg us g) (hs : swapsWithSole [tg] e pos.line X.env = pure false := by rfl) (hw : swappedStores [tg] e X.env = pure none := by rfl) (h1 : (assignEach [tg] X.env).map (·.2) = [assign tg X.env] := by rfl) : S X (.Assign [tg] e pos) (sAsg te g) := by
  refine psImp (ps_asg he hg hs hw h1) fun D' σ H ⟨P, env, K', S, t, f⟩ => ?_
  refine ⟨P, env, _, S, t, fun r e v P1 H1 k A1 R1 => ?_⟩
  obtain ⟨d, e2, P2, k2, A2, r2⟩ := share_ok A1 R1 k
  exact ⟨P2, e2, d, _, A2.sim, r2, k2, fun e3 σ3 k3 S3 st3 _ => f.nx _ _ _ _ k3 S3 (A2.step.trans st3)⟩
/-- a, b = e1, e2 -/
def resv (e : Ev) (r : Rv) (K : Rv → Ev → Prop) : Prop := match r with
  | .own o => K (.own o) e
  | .sh d => K (.sh d) e
  | .bor j => share e (.bor j) fun d e2 => K (.sh d) e2
def slOf : Rv → Sl
  | .sh d => .sh d
  | .own o => .own o
  | .bor _ => .un
theorem resv_ok {K : PySem.W.Frag} {P P1 : Addr → Prop} {env e : Ev} {σ : L2.St} {H H1 : Hp} {r : Rv} {v : V} {k : Rv → Ev → Prop} (A1 : Aft K P env σ H P1 e H1) (R1 : Res K env σ H P1 e H1 r v) (q : resv e r k) :
    ∃ r' e' P', k r' e' ∧ Aft K P env σ H P' e' H1 ∧ Aft K P1 e σ H1 P' e' H1 ∧ Res K env σ H P' e' H1 r' v ∧ (∀ i, r' ≠ .bor i) ∧ ∀ o, r' = .own o → r = .own o := by
  cases r with
  | sh d => exact ⟨_, e, P1, q, A1, Aft.refl A1.sim, R1, (fun i z => nomatch z), fun o z => z⟩
  | own o => exact ⟨_, e, P1, q, A1, Aft.refl A1.sim, R1, (fun i z => nomatch z), fun o z => z⟩
  | bor j =>
    obtain ⟨d, e2, P2, k2, A2, r2⟩ := share_ok (Aft.refl A1.sim) (RvOk.res R1.1 (show Rv.notOwn (.bor j) from trivial)) (k := fun d e2 => k (.sh d) e2) q
    exact ⟨_, e2, P2, k2, A1.trans A2, A2, ⟨r2, fun o a z => nomatch z⟩, (fun i z => nomatch z), fun o z => nomatch z⟩
/-- an own result lasts -/
theorem Res.last {K : PySem.W.Frag} {P1 P2 : Addr → Prop} {env e e2 : Ev} {σ : L2.St} {H H1 H2 : Hp} {r : Rv} {v : V} (R1 : Res K env σ H P1 e H1 r v) (S1 : Sim K P1 e σ H1) (A2 : Aft K P1 e σ H1 P2 e2 H2) : Res K env σ H P2 e2 H2 r v := by
  refine ⟨?_, R1.2⟩
  cases r with
  | sh d => exact R1.1.aft S1 A2 trivial
  | bor j => exact R1.1.aft S1 A2 trivial
  | own o =>
    obtain ⟨a, rfl, h1, h2, h3⟩ := R1.1
    obtain ⟨h, eh⟩ := h3.some
    have hne : H1 a ≠ none := S1.dom a h1
    refine ⟨a, rfl, (A2.step.priv a hne h2).mpr h1, fun z => ?_, ?_⟩
    · rcases A2.step.own a z with w | w
      · exact h2 w
      · exact hne w
    · rw [A2.step.keep a h eh h2, ← eh]
      exact h3.mono (A2.step.masks S1)
def sPar2 (i j : Nat) (ta tb : TEp) : TSp := fun D' env => ta env fun r1 e1 => tb e1 fun r2 e2 => resv e2 r1 fun r1 e3 => resv e3 r2 fun r2 e4 => D'.nx ((e4.set i (slOf r1)).set j (slOf r2))
theorem slOf_ok {K : PySem.W.Frag} {P : Addr → Prop} {env : Ev} {σ : L2.St} {H : Hp} {r : Rv} {v : V} (h : RvOk K P env σ H r v) (n : ∀ i, r ≠ .bor i) : SlOk K P H (some (some v)) (slOf r) ∧ ∀ a, (slOf r).ow? ≠ none → v = .ref a → ¬ OwnA env σ a := by
  cases r with
  | sh d => exact ⟨⟨v, rfl, h⟩, fun a z => absurd rfl z⟩
  | own o =>
    obtain ⟨a, rfl, h1, h2, h3⟩ := h
    exact ⟨⟨a, rfl, h1, h3⟩, fun b _ z => by cases z; exact h2⟩
  | bor i => exact absurd rfl (n i)
theorem slOf_new {K : PySem.W.Frag} {P : Addr → Prop} {env e : Ev} {σ : L2.St} {H H1 : Hp} {r : Rv} {v : V} (h : Res K env σ H P e H1 r v) {a : Addr} (n : (slOf r).ow? ≠ none) (z : v = .ref a) : OwnA env σ a ∨ H a = none := by
  cases r with
  | sh d => exact absurd rfl n
  | own o => exact (h.2 o a rfl z).symm
  | bor i => exact absurd rfl n
theorem slOf_nio (r : Rv) : ∀ o, slOf r ≠ .io o := by cases r <;> (intro o z; cases z)
theorem slOf_own {r : Rv} (n : (slOf r).ow? ≠ none) : ∃ o, r = .own o := by
  cases r with
  | sh d => exact absurd rfl n
  | own o => exact ⟨o, rfl⟩
  | bor i => exact absurd rfl n
theorem s_par2 (i j : Nat) {x y : Str} {px py pt : Pos} {kt k2 pt2} (hc : X.calm = true) (hN : X.N.Nodup) (ha : E X a ta) (hb : E X b tb) (hi : X.N[i]? = some x := by rfl) (hj : X.N[j]? = some y := by rfl) (hij : i ≠ j := by decide)
    (lx : X.env.scope.names.lookup x = some .local := by rfl) (ly : X.env.scope.names.lookup y = some .local := by rfl)
    (hw : swappedStores [.Tuple [.Name x px, .Name y py] kt pt] (.Tuple [a, b] k2 pt2) X.env = pure (some [x, y]) := by rfl)
    (hs : swapsWithSole [.Tuple [.Name x px, .Name y py] kt pt] (.Tuple [a, b] k2 pt2) pos.line X.env = pure false := by rfl)
    (h1 : starEach [a, b] X.env = (false, eval a X.env) :: starEach [b] X.env := by rfl) (h2 : starEach [b] X.env = (false, eval b X.env) :: starEach [] X.env := by rfl) :
    S X (.Assign [.Tuple [.Name x px, .Name y py] kt pt] (.Tuple [a, b] k2 pt2) pos) (sPar2 i j ta tb) := by
  refine psImp (ps_par hc hN hi hj hij lx ly (pa_cons ha (pa_cons hb pa_nil h2) h1) hw hs) fun D' σ H ⟨P, env, K', S, t, f⟩ => ?_
  refine ⟨P, env, _, S, t, fun r1 e1 v1 P1 H1 t1 A1 R1 => ?_⟩
  refine ⟨P1, e1, _, A1.sim, t1, fun r2 e2 v2 P2 H2 t2 A2 R2 => ?_⟩
  refine ⟨v1, v2, rfl, ?_⟩
  have A3 := A1.trans A2
  have R1' := R1.last A1.sim A2
  have R2' := Res.aft A1 R2
  obtain ⟨r1', e3, P3, t3, A4, B4, R4, n4, o4⟩ := resv_ok A3 R1' t2
  obtain ⟨r2', e4, P4, t4, A5, B5, R5, n5, o5⟩ := resv_ok A4 (R2'.last A3.sim B4) t3
  have R4' := R4.last A4.sim B5
  obtain ⟨s1, w1⟩ := slOf_ok R4'.1 n4
  obtain ⟨s2, w2⟩ := slOf_ok R5.1 n5
  have S6 := A5.sim.put (i := i) s1 w1
  have ap : ∀ c, (slOf r2').ow? ≠ none → v2 = .ref c → ¬ OwnA (e4.set i (slOf r1')) (σ.set i (some v1)) c := fun c q1 q2 q3 => by
    rcases A5.sim.putStep c q3 with z | z
    · exact w2 c q1 q2 z
    · obtain ⟨o1, eo1⟩ := slOf_own z.1
      obtain ⟨o2, eo2⟩ := slOf_own q1
      have e1' := o4 o1 eo1
      have e2' := o5 o2 eo2
      subst e1'
      obtain ⟨a, ea, h1, h2, h3⟩ := R1.1
      rw [z.2] at ea; cases ea
      rcases R2.2 o2 c e2' q2 with w | w
      · exact A1.sim.dom c h1 w
      · exact h2 w
  have S7 := S6.put (i := j) s2 ap
  refine f.nx _ _ _ _ t4 S7 ⟨A5.step.keep, A5.step.priv, fun c h => ?_, A5.step.there, fun l o c q1 q2 => (fun z => (fun z => A5.step.io l o c z.1 z.2) (io_set (slOf_nio r1') z.1 z.2)) (io_set (slOf_nio r2') q1 q2)⟩
  rcases S6.putStep c h with z | z
  · rcases A5.sim.putStep c z with w | w
    · exact A5.step.own c w
    · exact slOf_new R4' w.1 w.2
  · exact slOf_new R5 z.1 z.2
end
end PL
namespace PL
open PySem PySem.Spec PyProof.Rows L2

/-! ### while -/
section
variable {X : Cx} {pos : Pos} {c e : Expr} {body : List Stmt} {tt : TTp} {tb : TSp}
def sWhile (c : TTp) (tb : TSp) : TSp := fun D' env => ∃ I : Nat → Ev → Prop, (∃ m, I m env) ∧ ∀ m e, I m e →
  c e fun b e1 => match b with
    | true => tb { D' with nx := fun e' => ∃ m', m' < m ∧ I m' e', ct := fun e' => ∃ m', m' < m ∧ I m' e', bk := D'.nx } e1
    | false => D'.nx e1
theorem s_while (hp : PassesOwn (model X.prog X.w) X.A X.env X.xe) (hc : T X c tt) (hb : SS X body tb) : S X (.While c body [] pos) (sWhile tt tb) := by
  refine psImp (ps_while hp hc hb) fun D' σ H ⟨P, env, K', S, ⟨I, ⟨m0, i0⟩, turn⟩, f⟩ => ?_
  refine ⟨fun m σ1 H1 => ∃ P1 e1, I m e1 ∧ Sim X.K P1 e1 σ1 H1 ∧ Step P env σ H P1 e1 σ1 H1, ⟨m0, P, env, i0, S, Step.refl⟩, ?_⟩
  rintro m σ1 H1 ⟨P1, e1, i1, S1, st1⟩
  refine ⟨P1, e1, _, S1, turn m e1 i1, fun b e2 P2 H2 k A2 => ?_⟩
  have st2 := st1.trans A2.step
  cases b with
  | false => exact iteF (f.nx _ _ _ _ k A2.sim st2)
  | true =>
    refine iteT ?_
    refine ⟨fun σ3 H3 => ∃ m', m' < m ∧ ∃ P3 e3, I m' e3 ∧ Sim X.K P3 e3 σ3 H3 ∧ Step P env σ H P3 e3 σ3 H3, fun σ' H' ⟨m', hm, q⟩ => ⟨m', hm, q⟩, ?_⟩
    refine ⟨P2, e2, _, A2.sim, k, ⟨fun e3 σ3 P3 H3 ⟨m', hm, i3⟩ S3 st3 => ⟨m', hm, P3, e3, i3, S3, st2.trans st3⟩, fun e3 σ3 P3 H3 k3 S3 st3 => f.nx _ _ _ _ k3 S3 (st2.trans st3),
      fun e3 σ3 P3 H3 ⟨m', hm, i3⟩ S3 st3 => ⟨m', hm, P3, e3, i3, S3, st2.trans st3⟩, (f.step st2).rt⟩⟩
end

/-! ### what is walked -/
abbrev TIp := Ev → (List D → Ev → Prop) → Prop
/-- J walks data that stand for ds, as long as what is shared in Hs stays -/
def ItOk (K : PySem.W.Frag) (Hs : Hp) (J : It) (ds : List D) : Prop :=
  ∃ (G : Hp → Prop) (Y : Nat → Hp → V → Hp → Prop), Walk J ds.length G Y ∧ (∀ H, Same Hs H → G H) ∧
    ∀ i x H1 H2 P1, i < ds.length → Y i H1 x H2 → (∀ a, P1 a → H1 a ≠ none) → Same Hs (mask H1 P1) → ∃ d, ds[i]? = some d ∧ NewRes K P1 H1 P1 H2 (.sh d) x
def liftI (K : PySem.W.Frag) (t : TIp) : TI := fun σ H Rr => ∃ P env K', Sim K P env σ H ∧ t env K' ∧ ∀ ds env' P' H' J, K' ds env' → Aft K P env σ H P' env' H' → ItOk K (mask H' P') J ds → Rr J H'
def I (X : Cx) (tg iter : Expr) (t : TIp) : Prop := PI X tg iter (liftI X.K t)
theorem piImp {X : Cx} {tg e : Expr} {t t' : TI} (h : PI X tg e t) (i : ∀ σ H R, t' σ H R → t σ H R) : PI X tg e t' := ⟨fun pins s σ H R I q => h.run pins s σ H R I (i _ _ _ q)⟩
section
variable {X : Cx} {pos p : Pos} {tg a b c e iter : Expr} {te ta tb tc : TEp} {tA : TAp}
def elems : D → Option (List D)
  | .lst ds => some ds
  | .tup ds => some ds
  | .lck ds => some ds
  | .str l => some (l.map fun c => .str [c])
  | .dct ks _ => none
  | _ => none
def pIt (te : TEp) : TIp := fun env K => te env fun r e => share e r fun d e2 => match d with
  | .lst ds => K ds e2
  | .tup ds => K ds e2
  | .lck ds => K ds e2
  | .str l => K (l.map fun c => .str [c]) e2
  | _ => False
theorem it_list {K : PySem.W.Frag} {Hs H : Hp} {a : Addr} {xs : List V} {ds : List D} (h : SqL K Hs a xs) (r : RA K Hs ds xs) : ItOk K Hs (Itl K a) ds := by
  refine ⟨fun H => SqL K H a xs, YAt xs, r.len ▸ walk_list, fun H s => L2.Same.seq s h, fun i x H1 H2 P1 hi ⟨e1, e2⟩ dom sm => ?_⟩
  subst e1
  obtain ⟨d, ed, rd'⟩ := r.getV e2
  exact ⟨d, ed, fun _ _ z => z, rfl, R.mono sm _ _ rd'⟩
theorem it_tup {K : PySem.W.Frag} {Hs H : Hp} {a : Addr} {xs : List V} {ds : List D} (h : SqT K Hs a xs) (r : RA K Hs ds xs) : ItOk K Hs (Itt K a) ds := by
  refine ⟨fun H => SqT K H a xs, YAt xs, r.len ▸ walk_tup, fun H s => Same.seqT s h, fun i x H1 H2 P1 hi ⟨e1, e2⟩ dom sm => ?_⟩
  subst e1
  obtain ⟨d, ed, rd'⟩ := r.getV e2
  exact ⟨d, ed, fun _ _ z => z, rfl, R.mono sm _ _ rd'⟩
theorem it_str {K : PySem.W.Frag} {Hs : Hp} {l : List Nat} : ItOk K Hs (Its (toStr l)) (l.map fun c => .str [c]) := by
  have hl : (toStr l).cps.size = (l.map fun c => D.str [c]).length := by simp [toStr]
  refine ⟨fun _ => True, _, hl ▸ walk_str, fun H s => trivial, fun i x H1 H2 P1 hi y dom sm => ?_⟩
  obtain ⟨e1, c, e2, e3⟩ := y
  subst e1
  have e4 : l[i]? = some c := by simpa [toStr] using e2
  refine ⟨.str [c], by simp [e4], fun _ _ z => z, rfl, ?_⟩
  rw [e3]
  rfl
theorem i_seq (he : E X e te) : I X tg e (pIt te) := by
  refine ⟨fun pins s σ H Rr I h => ?_⟩
  obtain ⟨P, env, K', S, t, k⟩ := h
  refine thn (he.run pins s σ H (fun x H1 => ∃ d env2 P2, (match d with
      | .lst ds => K' ds env2
      | .tup ds => K' ds env2
      | .lck ds => K' ds env2
      | .str l => K' (l.map fun c => D.str [c]) env2
      | _ => False) ∧ Aft X.K P env σ H P2 env2 H1 ∧ R X.K (mask H1 P2) d x) I ⟨P, env, _, S, t, fun r e v P1 H1 t1 A1 R1 => ?_⟩) fun v s1 ⟨x, H1, I1, r1, d, env2, P2, q1, A2, X1⟩ => ?_
  · obtain ⟨d, e2, P2, k2, A2, r2⟩ := share_ok A1 R1 t1
    exact ⟨d, e2, P2, k2, A2, r2⟩
  · have goL : ∀ a xs ds, x = V.ref a → SqL X.K (mask H1 P2) a xs → RA X.K (mask H1 P2) ds xs → K' ds env2 → wpAny (model X.prog X.w) X.A (pyIter v) (PIE X pins σ tg Rr) X.xe s1 := fun a xs ds e1 h1 h2 q1 => by
      subst e1
      cases r1
      obtain ⟨its, rv, pl, hz⟩ := I1.list (L2.Same.seq (mask_same H1 P2) h1)
      refine wpAny_pyIter_list pl.isList ?_
      refine ⟨s1.heap.objs.size, [s1.heap.objs.size], _, _, H1, rfl, I1.kept (t' := s1.toks) fun b o e => Heap.get?_push_of_some _ e, turn_list a _, ⟨_, Heap.get?_push_size _ rfl, rfl, rfl⟩, fun b hb => ?_, k ds env2 P2 H1 _ q1 A2 (it_list (H := H1) h1 h2)⟩
      have e : b = s1.heap.objs.size := by simpa using hb
      subst e
      exact I1.fpOk (Nat.le_refl _) (I1.hok.fresh (Nat.le_refl _))
    cases d with
    | lst ds =>
      obtain ⟨a, xs, e1, h1, h2⟩ := X1
      exact goL a xs ds e1 (SqL.of h1) h2 q1
    | lck ds =>
      obtain ⟨a, xs, e1, h1, h2⟩ := X1
      exact goL a xs ds e1 h1 h2 q1
    | tup ds =>
      obtain ⟨a, xs, e1, h1, h2⟩ := X1
      subst e1
      cases r1
      obtain ⟨its, rv, pl, hz⟩ := I1.tuple (Same.seqT (mask_same H1 P2) h1)
      refine wpAny_pyIter_tuple (show s1.heap.IsTuple a its.toArray from pl) ?_
      refine ⟨s1.heap.objs.size, [s1.heap.objs.size], _, _, H1, rfl, I1.kept (t' := s1.toks) fun b o e => Heap.get?_push_of_some _ e, turn_tuple a _, ⟨_, Heap.get?_push_size _ rfl, rfl, rfl⟩, fun b hb => ?_, k ds env2 P2 H1 _ q1 A2 (it_tup (H := H1) h1 h2)⟩
      have e : b = s1.heap.objs.size := by simpa using hb
      subst e
      exact I1.fpOk (Nat.le_refl _) (I1.hok.fresh (Nat.le_refl _))
    | str l =>
      have e1 : x = V.str (toStr l) := X1
      subst e1
      obtain ⟨t, rfl⟩ := r1
      have fin := k _ env2 P2 H1 _ q1 A2 (it_str (K := X.K) (Hs := mask H1 P2) (l := l))
      cases ha : (toStr l).cps.all (· < 128)
      · exact wpAny_pyIter_wide ha (pi_one (tk := s1.toks) I1 _ (turn_str _ (toStr l) t "str_iterator" (.inr rfl)) ⟨_, Heap.get?_push_size _ rfl, rfl, rfl⟩ fin)
      · exact wpAny_pyIter_ascii ha (pi_one (tk := s1.toks) I1 _ (turn_str _ (toStr l) t "str_ascii_iterator" (.inl rfl)) ⟨_, Heap.get?_push_size _ rfl, rfl, rfl⟩ fin)
    | _ => exact q1.elim
def rangeD (lo : Int) (n : Nat) : List D := (List.range n).map fun i => D.int (lo + (i : Nat))
def rangeC (lo c : Int) (n : Nat) : List D := (List.range n).map fun i => D.int (lo + (i : Nat) * c)
theorem it_range {K : PySem.W.Frag} {Hs : Hp} {lo : Int} {n : Nat} : ItOk K Hs (Itr lo n) (rangeD lo n) := by
  have hl : n = (rangeD lo n).length := by simp [rangeD]
  refine ⟨fun _ => True, _, by rw [← hl]; exact walk_range, fun H s => trivial, fun i x H1 H2 P1 hi y dom sm => ?_⟩
  obtain ⟨e1, e2⟩ := y
  subst e1; subst e2
  rw [← hl] at hi
  exact ⟨.int (lo + (i : Nat)), by simp [rangeD, hi], fun _ _ z => z, rfl, rfl⟩
theorem it_rangeC {K : PySem.W.Frag} {Hs : Hp} {lo c : Int} {n : Nat} : ItOk K Hs (Itc lo c n) (rangeC lo c n) := by
  have hl : n = (rangeC lo c n).length := by simp [rangeC]
  refine ⟨fun _ => True, _, by rw [← hl]; exact walk_rangeC, fun H s => trivial, fun i x H1 H2 P1 hi y dom sm => ?_⟩
  obtain ⟨e1, e2⟩ := y
  subst e1; subst e2
  rw [← hl] at hi
  exact ⟨.int (lo + (i : Nat) * c), by simp [rangeC, hi], fun _ _ z => z, rfl, rfl⟩
def pRng1 (tA : TAp) : TIp := fun env K => tA env fun rs e => rdAll e rs fun ds => match ds with
  | [.int j] => (-(2 ^ 62) ≤ j ∧ j < 2 ^ 62) ∧ K (rangeD 0 j.toNat) e
  | _ => False
def pRng2 (tA : TAp) : TIp := fun env K => tA env fun rs e => rdAll e rs fun ds => match ds with
  | [.int i, .int j] => (-(2 ^ 62) ≤ i ∧ i < 2 ^ 62 ∧ -(2 ^ 62) ≤ j ∧ j < 2 ^ 62) ∧ K (rangeD i (j - i).toNat) e
  | _ => False
def pRng3 (tA : TAp) : TIp := fun env K => tA env fun rs e => rdAll e rs fun ds => match ds with
  | [.int i, .int j, .int c] => ∃ n, RgC i j c n ∧ K (rangeC i c n) e
  | _ => False
theorem rdAll_lift {K : PySem.W.Frag} {σ : L2.St} {H : Hp} {tA : TAp} {f : List D → Ev → (List D → Ev → Prop) → Prop} {w : List V → Hp → (It → Hp → Prop) → Prop} {Rr : It → Hp → Prop}
    (hw : ∀ P H env ds vs K', (∀ a, P a → H a ≠ none) → RtA K (mask H P) H ds vs → f ds env K' → (∀ ds' J, K' ds' env → ItOk K (mask H P) J ds' → Rr J H) → w vs H Rr)
    (h : liftI K (fun env K => tA env fun rs e => rdAll e rs fun ds => f ds e K) σ H Rr) : liftA K tA σ H fun vs H1 => w vs H1 Rr := by
  obtain ⟨P, env, K', S, t, k⟩ := h
  refine ⟨P, env, _, S, t, fun rs e2 vs P2 H2 t2 A2 R2 => ?_⟩
  obtain ⟨ds, t2, Y1⟩ := rdAll_ok A2.sim R2 t2
  exact hw P2 H2 e2 ds vs K' A2.sim.dom Y1 t2 fun ds' J k' io => k ds' e2 P2 H2 J k' A2 io
theorem RtA.int1 {K : PySem.W.Frag} {Hs H : Hp} {i : Int} {vs : List V} (h : RtA K Hs H [.int i] vs) : vs = [.int i] := by
  obtain ⟨v, r, e, h1, h2⟩ := h
  rw [e, show v = _ from h1, show r = [] from h2]
theorem RtA.int2 {K : PySem.W.Frag} {Hs H : Hp} {i j : Int} {vs : List V} (h : RtA K Hs H [.int i, .int j] vs) : vs = [.int i, .int j] := by
  obtain ⟨v, r, e, h1, h2⟩ := h
  rw [e, show v = _ from h1, h2.int1]
theorem RtA.int3 {K : PySem.W.Frag} {Hs H : Hp} {i j k : Int} {vs : List V} (h : RtA K Hs H [.int i, .int j, .int k] vs) : vs = [.int i, .int j, .int k] := by
  obtain ⟨v, r, e, h1, h2⟩ := h
  rw [e, show v = _ from h1, h2.int2]
theorem i_range1 (hg : Gl X "range") (hm : X.mg "range" = none) (ha : A X [a] tA) (hs : starEach [a] X.env = [(false, eval a X.env)] := by rfl) : I X tg (.Call (.Name "range" p) [a] [] pos) (pRng1 tA) := by
  refine piImp (pi_range1 hg hm ha hs) fun σ H Rr h => ?_
  refine rdAll_lift (f := fun ds e K => match ds with
    | [.int j] => (-(2 ^ 62) ≤ j ∧ j < 2 ^ 62) ∧ K (rangeD 0 j.toNat) e
    | _ => False) (w := fun vs H1 Rr => ∃ j : Int, vs = [.int j] ∧ -(2 ^ 62) ≤ j ∧ j < 2 ^ 62 ∧ Rr (Itr 0 j.toNat) H1) (fun P H env ds vs K' dom rt q fin => ?_) h
  split at q
  · exact ⟨_, rt.int1, q.1.1, q.1.2, fin _ _ q.2 it_range⟩
  · exact q.elim
theorem i_range2 (hg : Gl X "range") (hm : X.mg "range" = none) (ha : A X [a, b] tA) (hs : starEach [a, b] X.env = [(false, eval a X.env), (false, eval b X.env)] := by rfl) (hs2 : starEach [b] X.env = [(false, eval b X.env)] := by rfl) : I X tg (.Call (.Name "range" p) [a, b] [] pos) (pRng2 tA) := by
  refine piImp (pi_range2 hg hm ha hs hs2) fun σ H Rr h => ?_
  refine rdAll_lift (f := fun ds e K => match ds with
    | [.int i, .int j] => (-(2 ^ 62) ≤ i ∧ i < 2 ^ 62 ∧ -(2 ^ 62) ≤ j ∧ j < 2 ^ 62) ∧ K (rangeD i (j - i).toNat) e
    | _ => False) (w := fun vs H1 Rr => ∃ i j : Int, vs = [.int i, .int j] ∧ (-(2 ^ 62) ≤ i ∧ i < 2 ^ 62 ∧ -(2 ^ 62) ≤ j ∧ j < 2 ^ 62) ∧ Rr (Itr i (j - i).toNat) H1) (fun P H env ds vs K' dom rt q fin => ?_) h
  split at q
  · exact ⟨_, _, rt.int2, q.1, fin _ _ q.2 it_range⟩
  · exact q.elim
theorem i_range3 (hg : Gl X "range") (hm : X.mg "range" = none) (ha : A X [a, b, c] tA) (hs : starEach [a, b, c] X.env = (false, eval a X.env) :: starEach [b, c] X.env := by rfl) (hpl : (backTo pos (starEach [b, c] X.env)).any (·.1) = false := by rfl) : I X tg (.Call (.Name "range" p) [a, b, c] [] pos) (pRng3 tA) := by
  refine piImp (pi_range3 hg hm ha hs hpl) fun σ H Rr h => ?_
  refine rdAll_lift (f := fun ds e K => match ds with
    | [.int i, .int j, .int c] => ∃ n, RgC i j c n ∧ K (rangeC i c n) e
    | _ => False) (w := fun vs H1 Rr => ∃ (i j c : Int) (n : Nat), vs = [.int i, .int j, .int c] ∧ RgC i j c n ∧ Rr (Itc i c n) H1) (fun P H env ds vs K' dom rt q fin => ?_) h
  split at q
  · obtain ⟨n, q1, q2⟩ := q
    exact ⟨_, _, _, n, rt.int3, q1, fin _ _ q2 it_rangeC⟩
  · exact q.elim

/-! ### for -/
variable {body : List Stmt} {ti : TIp} {g : TGp} {tB : TSp}
def sFor (ti : TIp) (g : TGp) (tB : TSp) : TSp := fun D' env => ti env fun ds e1 => ∃ I : Nat → Ev → Prop, I 0 e1 ∧
  (∀ k d e, ds[k]? = some d → I k e → g d e fun e2 => tB { D' with nx := I (k + 1), ct := I (k + 1), bk := D'.nx } e2) ∧ ∀ e, I ds.length e → D'.nx e
theorem s_for (hp : PassesOwn (model X.prog X.w) X.A X.env X.xe) (hc : X.calm = true) {us : List Nat} (hi : I X tg iter ti) (hg : G X tg us g) (hb : SS X body tB) (hs : ∀ x, foldedSetIterable iter X.env x = pure x := by intro _; rfl) :
    S X (.For tg iter body [] pos) (sFor ti g tB) := by
  refine psImp (ps_for hp hc hi hg hb hs) fun D' σ H ⟨P, env, K', S, t, f⟩ => ?_
  refine ⟨P, env, _, S, t, fun ds e1 P1 H1 J k A1 io => ?_⟩
  obtain ⟨I, i0, turn, done⟩ := k
  obtain ⟨Gd, Y, w, hG, hY⟩ := io
  refine for_it w (fun i σ2 H2 => ∃ P2 e2, I i e2 ∧ Sim X.K P2 e2 σ2 H2 ∧ Step P1 e1 σ H1 P2 e2 σ2 H2) ⟨P1, e1, i0, A1.sim, Step.refl⟩
    (fun i σ2 H2 _ ⟨P2, e2, i2, S2, st2⟩ => hG H2 fun a o z => (mask_same H2 P2) a o (st2.masks A1.sim a o z)) (fun i x σ2 H2 H3 hi ⟨P2, e2, i2, S2, st2⟩ y => ?_) (fun σ2 H2 ⟨P2, e2, i2, S2, st2⟩ => f.nx _ _ _ _ (done e2 i2) S2 (A1.step.trans st2))
  obtain ⟨d, ed, n⟩ := hY i x H2 H3 P2 hi y S2.dom (st2.masks A1.sim)
  obtain ⟨S3, st3, r3⟩ := n.fin S2
  have st0 := A1.step.trans (st2.trans st3)
  refine ⟨P2, e2, d, _, S3, r3, turn i d e2 ed i2, fun e4 σ4 k4 S4 st4 _ => ?_⟩
  have st5 := st2.trans (st3.trans st4)
  have st6 := A1.step.trans st5
  exact ⟨P2, e4, _, S4, k4, ⟨fun e5 σ5 P5 H5 k5 S5 q5 => ⟨P5, e5, k5, S5, st5.trans q5⟩, fun e5 σ5 P5 H5 k5 S5 q5 => f.nx _ _ _ _ k5 S5 (st6.trans q5), fun e5 σ5 P5 H5 k5 S5 q5 => ⟨P5, e5, k5, S5, st5.trans q5⟩, (f.step st6).rt⟩⟩
end
end PL
namespace PL
open PySem PySem.Spec PyProof.Rows L2

/-! ### list comprehensions -/
def wipeE (env : Ev) : List Nat → Ev
  | [] => env
  | v :: vs => (wipeE env vs).set v .un
/-- the slots vs as they were in env -/
def back (e env : Ev) : List Nat → Ev
  | [] => e
  | v :: vs => (back e env vs).set v ((env[v]?).getD .un)
theorem wipeE_length (env : Ev) : ∀ vs, (wipeE env vs).length = env.length
  | [] => rfl
  | v :: vs => by unfold wipeE; rw [List.length_set, wipeE_length env vs]
theorem back_length (e env : Ev) : ∀ vs, (back e env vs).length = e.length
  | [] => rfl
  | v :: vs => by unfold back; rw [List.length_set, back_length e env vs]
theorem wipeE_out {env : Ev} {i : Nat} : ∀ {vs : List Nat}, i ∉ vs → (wipeE env vs)[i]? = env[i]?
  | [], _ => rfl
  | v :: vs, h => by
    simp only [List.mem_cons, not_or] at h
    unfold wipeE
    rw [List.getElem?_set_ne (Ne.symm h.1), wipeE_out h.2]
theorem wipeE_in {env : Ev} {i : Nat} {s : Sl} : ∀ {vs : List Nat}, i ∈ vs → (wipeE env vs)[i]? = some s → s = .un
  | v :: vs, h, e => by
    unfold wipeE at e
    by_cases hv : v = i
    · subst hv
      have hi : v < ((wipeE env vs).set v .un).length := (List.getElem?_eq_some_iff.mp e).1
      rw [List.length_set] at hi
      rw [List.getElem?_set_self hi] at e
      cases e; rfl
    · rw [List.getElem?_set_ne hv] at e
      exact wipeE_in (by simpa [Ne.symm hv] using h) e
theorem back_out {e env : Ev} {i : Nat} : ∀ {vs : List Nat}, i ∉ vs → (back e env vs)[i]? = e[i]?
  | [], _ => rfl
  | v :: vs, h => by
    simp only [List.mem_cons, not_or] at h
    unfold back
    rw [List.getElem?_set_ne (Ne.symm h.1), back_out h.2]
theorem back_in {e env : Ev} (hl : e.length = env.length) {i : Nat} : ∀ {vs : List Nat}, i ∈ vs → (back e env vs)[i]? = env[i]?
  | v :: vs, h => by
    unfold back
    by_cases hv : v = i
    · subst hv
      by_cases hi : v < env.length
      · rw [List.getElem?_set_self (by rw [back_length, hl]; exact hi), List.getElem?_eq_getElem hi]
        rfl
      · rw [List.getElem?_eq_none (by rw [List.length_set, back_length, hl]; omega), List.getElem?_eq_none (by omega)]
    · rw [List.getElem?_set_ne hv]
      exact back_in hl (by simpa [Ne.symm hv] using h)
theorem wipe_in {σ : L2.St} {i : Nat} {v : V} : ∀ {vs : List Nat}, i ∈ vs → (wipe σ vs)[i]? ≠ some (some v) := fun {vs} h e => (wipe_some e).2 h
theorem wipe_out' {σ : L2.St} {i : Nat} : ∀ {vs : List Nat}, i ∉ vs → (wipe σ vs)[i]? = σ[i]? := fun h => wipe_out h
section
variable {K : PySem.W.Frag} {P P' : Addr → Prop} {env e : Ev} {σ σ2 : L2.St} {H H' : Hp} {vs : List Nat}
theorem own_wipe {a : Addr} {i : Nat} : OwnI (wipeE env vs) (wipe σ vs) a i → i ∉ vs ∧ OwnI env σ a i := fun ⟨s, o, q1, q2, q3⟩ => by
  by_cases hi : i ∈ vs
  · rw [wipeE_in hi q1] at q2; cases q2
  · rw [wipeE_out hi] at q1
    rw [wipe_out hi] at q3
    exact ⟨hi, s, o, q1, q2, q3⟩
theorem Sim.wiped (S : Sim K P env σ H) (vs : List Nat) : Sim K P (wipeE env vs) (wipe σ vs) H := by
  refine ⟨by rw [wipeE_length, wipe_length]; exact S.len, S.dom, fun i s q => ?_, fun i j a q1 q2 => S.inj i j a (own_wipe q1).2 (own_wipe q2).2⟩
  by_cases hi : i ∈ vs
  · rw [wipeE_in hi q]; trivial
  · rw [wipeE_out hi] at q
    rw [wipe_out hi]
    exact S.slot i s q
/-- a step that may have changed what stands at ex -/
structure StepX (ex : Addr → Prop) (P : Addr → Prop) (env : Ev) (σ : L2.St) (H : Hp) (P' : Addr → Prop) (env' : Ev) (σ' : L2.St) (H' : Hp) : Prop where
  keep : ∀ a o, ¬ ex a → H a = some o → ¬ OwnA env σ a → H' a = some o
  priv : ∀ a, ¬ ex a → H a ≠ none → ¬ OwnA env σ a → (P' a ↔ P a)
  own : ∀ a, OwnA env' σ' a → OwnA env σ a ∨ H a = none
  there : ∀ a, H a ≠ none → H' a ≠ none
  io : ∀ (i : Nat) (o' : Ow) (a : Addr), env'[i]? = some (.io o') → σ'[i]? = some (some (V.ref a)) → ∃ o, env[i]? = some (.io o) ∧ σ[i]? = some (some (V.ref a))
theorem Step.x {ex : Addr → Prop} {σ' : L2.St} (a : Step P env σ H P' e σ' H') : StepX ex P env σ H P' e σ' H' := ⟨fun b o _ => a.keep b o, fun b _ => a.priv b, a.own, a.there, a.io⟩
theorem StepX.trans {ex : Addr → Prop} {P1 P2 : Addr → Prop} {env1 env2 : Ev} {σ1 : L2.St} {H1 H2 : Hp} (a : StepX ex P env σ H P1 env1 σ1 H1) (b : StepX ex P1 env1 σ1 H1 P2 env2 σ2 H2) : StepX ex P env σ H P2 env2 σ2 H2 := by
  have nown : ∀ c o, H c = some o → ¬ OwnA env σ c → ¬ OwnA env1 σ1 c := fun c o h n q => by
    rcases a.own c q with z | z
    · exact n z
    · rw [h] at z; cases z
  refine ⟨fun c o x h n => b.keep c o x (a.keep c o x h n) (nown c o h n), fun c x h n => ?_, fun c q => ?_, fun c h => b.there c (a.there c h), fun i o' c h1 h2 => let ⟨o1, q1, q2⟩ := b.io i o' c h1 h2; a.io i o1 c q1 q2⟩
  · obtain ⟨o, ho⟩ := Option.ne_none_iff_exists'.mp h
    exact (b.priv c x (a.there c h) (nown c o ho n)).trans (a.priv c x h n)
  · rcases b.own c q with z | z
    · exact a.own c z
    · refine .inr ?_
      cases e : H c with
      | none => rfl
      | some o => exact absurd z (a.there c (by rw [e]; simp))
theorem StepX.un {ex : Addr → Prop} {σ' : L2.St} (a : StepX ex P env σ H P' e σ' H') (h : ∀ b, ex b → H b = none) : Step P env σ H P' e σ' H' :=
  ⟨fun b o q => a.keep b o (fun z => by rw [h b z] at q; cases q) q, fun b q => a.priv b (fun z => q (h b z)) q, a.own, a.there, a.io⟩
/-- behind a block: its own names as they were -/
theorem Sim.unwipeX {ex : Addr → Prop} (hx : ∀ a, ex a → P a ∧ ¬ OwnA env σ a) (S : Sim K P env σ H) (S2 : Sim K P' e σ2 H') (hw : L2.wipe σ2 vs = L2.wipe σ vs) (st : StepX ex P (wipeE env vs) (wipe σ vs) H P' e σ2 H') :
    Sim K P' (back e env vs) σ H' ∧ StepX ex P env σ H P' (back e env vs) σ H' := by
  have hl : e.length = env.length := by rw [S2.len, ← wipe_length σ2 vs, hw, wipe_length]; exact S.len.symm
  have out : ∀ {i}, i ∉ vs → σ2[i]? = σ[i]? := fun {i} hi => by rw [← wipe_out (σ := σ2) hi, hw, wipe_out hi]
  have Sw := S.wiped vs
  have mm : Same (mask H P) (mask H' P') := mask_le fun a o n h => by
    have q := Sw.nown n
    have nx : ¬ ex a := fun z => n (hx a z).1
    exact ⟨fun z => n ((st.priv a nx (by rw [h]; simp) q).mp z), st.keep a o nx h q⟩
  have nown : ∀ {a i}, i ∈ vs → OwnI env σ a i → ¬ OwnA (wipeE env vs) (wipe σ vs) a := fun {a i} hi q ⟨j, z⟩ => by
    obtain ⟨z1, z2⟩ := own_wipe z
    exact z1 (S.inj i j a q z2 ▸ hi)
  have ownB : ∀ {a i}, OwnI (back e env vs) σ a i → (i ∈ vs ∧ OwnI env σ a i) ∨ (i ∉ vs ∧ OwnI e σ2 a i) := fun {a i} ⟨s, o, q1, q2, q3⟩ => by
    by_cases hi : i ∈ vs
    · rw [back_in hl hi] at q1
      exact .inl ⟨hi, s, o, q1, q2, q3⟩
    · rw [back_out hi] at q1
      rw [← out hi] at q3
      exact .inr ⟨hi, s, o, q1, q2, q3⟩
  have meet : ∀ {a i j}, i ∈ vs → OwnI env σ a i → OwnI e σ2 a j → False := fun {a i j} hi q z => by
    rcases st.own a ⟨j, z⟩ with w | w
    · exact nown hi q w
    · obtain ⟨s, o, q1, q2, q3⟩ := q
      exact S.dom a (S.ownP ⟨i, s, o, q1, q2, q3⟩) w
  refine ⟨⟨by rw [back_length, hl]; exact S.len, S2.dom, fun i s q => ?_, fun i j a q1 q2 => ?_⟩, ⟨fun a o x h n => st.keep a o x h fun ⟨j, z⟩ => n ⟨j, (own_wipe z).2⟩, fun a x h n => st.priv a x h fun ⟨j, z⟩ => n ⟨j, (own_wipe z).2⟩, fun a ⟨i, q⟩ => ?_, st.there, fun i o a q1 q2 => ?_⟩⟩
  · by_cases hi : i ∈ vs
    · rw [back_in hl hi] at q
      have sl := S.slot i s q
      have keepO : ∀ o, s.ow? = some o → (∃ b, σ[i]? = some (some (V.ref b)) ∧ P b ∧ OwnAt K (mask H P) (H b) o) → ∃ b, σ[i]? = some (some (V.ref b)) ∧ P' b ∧ OwnAt K (mask H' P') (H' b) o := fun o z ⟨b, h1, h2, h3⟩ => by
        obtain ⟨x, exx⟩ := h3.some
        have nn := nown hi ⟨s, o, q, z, h1⟩
        have nx : ¬ ex b := fun w => (hx b w).2 ⟨i, s, o, q, z, h1⟩
        refine ⟨b, h1, (st.priv b nx (S.dom b h2) nn).mpr h2, ?_⟩
        rw [st.keep b x nx exx nn, ← exx]
        exact h3.mono mm
      cases s with
      | un => trivial
      | sh d => obtain ⟨v, h1, h2⟩ := sl; exact ⟨v, h1, R.mono mm _ _ h2⟩
      | own o => exact keepO o rfl sl
      | io o => exact keepO o rfl sl
    · rw [back_out hi] at q
      rw [← out hi]
      exact S2.slot i s q
  · rcases ownB q1 with ⟨z1, z2⟩ | ⟨z1, z2⟩
    · rcases ownB q2 with ⟨w1, w2⟩ | ⟨w1, w2⟩
      · exact S.inj i j a z2 w2
      · exact (meet z1 z2 w2).elim
    · rcases ownB q2 with ⟨w1, w2⟩ | ⟨w1, w2⟩
      · exact (meet w1 w2 z2).elim
      · exact S2.inj i j a z2 w2
  · rcases ownB q with ⟨z1, z2⟩ | ⟨z1, z2⟩
    · exact .inl ⟨i, z2⟩
    · rcases st.own a ⟨i, z2⟩ with ⟨j, w⟩ | w
      · exact .inl ⟨j, (own_wipe w).2⟩
      · exact .inr w
  · by_cases hi : i ∈ vs
    · rw [back_in hl hi] at q1
      exact ⟨o, q1, q2⟩
    · rw [back_out hi] at q1
      rw [← out hi] at q2
      obtain ⟨o2, w1, w2⟩ := st.io i o a q1 q2
      rw [wipeE_out hi] at w1
      rw [wipe_out hi] at w2
      exact ⟨o2, w1, w2⟩
theorem Sim.unwipe (S : Sim K P env σ H) (S2 : Sim K P' e σ2 H') (hw : L2.wipe σ2 vs = L2.wipe σ vs) (st : Step P (wipeE env vs) (wipe σ vs) H P' e σ2 H') :
    Sim K P' (back e env vs) σ H' ∧ Step P env σ H P' (back e env vs) σ H' := by
  obtain ⟨h1, h2⟩ := Sim.unwipeX (ex := fun _ => False) (fun _ z => z.elim) S S2 hw st.x
  exact ⟨h1, h2.un fun _ z => z.elim⟩
/-- a private object of no slot is written -/
theorem Sim.priv (S : Sim K P env σ H) {D0 : Addr} {o : HO} (hP : P D0) (hn : ¬ OwnA env σ D0) : Sim K P env σ (upd H D0 o) := by
  have mm : Same (mask H P) (mask (upd H D0 o) P) := mask_le fun b x h1 h2 => ⟨h1, by rw [upd_ne (show b ≠ D0 from fun z => h1 (by rw [z]; exact hP))]; exact h2⟩
  refine ⟨S.len, fun b hb => ?_, fun i s q => ?_, S.inj⟩
  · by_cases hb' : b = D0
    · rw [hb', upd_same]; simp
    · rw [upd_ne hb']; exact S.dom b hb
  · have sl := S.slot i s q
    have keepO : ∀ o', s.ow? = some o' → (∃ b, σ[i]? = some (some (V.ref b)) ∧ P b ∧ OwnAt K (mask H P) (H b) o') → ∃ b, σ[i]? = some (some (V.ref b)) ∧ P b ∧ OwnAt K (mask (upd H D0 o) P) (upd H D0 o b) o' := fun o' z ⟨b, h1, h2, h3⟩ => by
      refine ⟨b, h1, h2, ?_⟩
      rw [upd_ne (show b ≠ D0 from fun w => hn (by rw [← w]; exact ⟨i, s, o', q, z, h1⟩))]
      exact h3.mono mm
    cases s with
    | un => trivial
    | sh d => obtain ⟨v, h1, h2⟩ := sl; exact ⟨v, h1, R.mono mm _ _ h2⟩
    | own o' => exact keepO o' rfl sl
    | io o' => exact keepO o' rfl sl
end
def pLc (ti : TIp) (g : TGp) (tt : TTp) (te : TEp) (vs : List Nat) : TEp := fun env K => ti env fun ds e1 => ∃ I : Nat → List D → Ev → Prop, I 0 [] e1 ∧
  (∀ k d acc e, ds[k]? = some d → I k acc e → g d (wipeE e vs) fun e2 => tt e2 fun b e3 => match b with
    | true => te e3 fun r e4 => share e4 r fun y e5 => acc.length < sizeLine ∧ I (k + 1) (acc ++ [y]) (back e5 e vs)
    | false => I (k + 1) acc (back e3 e vs)) ∧ ∀ acc e, I ds.length acc e → K (.own (.lst acc)) e
/-- the state at a turn -/
structure AtTurn (K : PySem.W.Frag) (P1 : Addr → Prop) (e1 : Ev) (σ : L2.St) (H1 : Hp) (D0 : Addr) (acc : List D) (P : Addr → Prop) (e : Ev) (H : Hp) : Prop where
  sim : Sim K P e σ H
  step : Step P1 e1 σ H1 P e σ H
  un : ∀ i : Nat, e1[i]? ≠ some Sl.un → e[i]? ≠ some Sl.un
  hP : P D0
  hn : ¬ OwnA e σ D0
  ho : ∃ xs, H D0 = some (.lst xs) ∧ RA K (mask H P) acc xs
section
variable {X : Cx} {pos p : Pos} {tg elt iter tg1 iter1 : Expr} {ifs ifs1 : List Expr} {scope : Scope} {own : List (Str × Nat)} {ti ti1 : TIp} {g g1 : TGp} {tt tt1 : TTp} {te : TEp}
def TsP (X : Cx) (ifs : List Expr) (t : TTp) : Prop := PTs X ifs (liftT X.K t)
def tYs : TTp := fun env K => K true env
theorem ts_nil : TsP X [] tYs := ⟨fun pins s σ H Q I ⟨P, env, K', S, t, k⟩ => pts_nil.run pins s σ H Q I (k true env P H t (Aft.refl S))⟩
theorem ts_one {c : Expr} {t : TTp} (h : T X c t) : TsP X [c] t := pts_one h
theorem AtTurn.next {K : PySem.W.Frag} {P1 P P4 : Addr → Prop} {e1 e e4 : Ev} {σ σ2 : L2.St} {H1 H H4 : Hp} {D0 : Addr} {acc : List D} {vs : List Nat} (a : AtTurn K P1 e1 σ H1 D0 acc P e H) (n0 : H1 D0 = none) (S4 : Sim K P4 e4 σ2 H4) (hw : wipe σ2 vs = wipe σ vs)
    (st4 : Step P (wipeE e vs) (wipe σ vs) H P4 e4 σ2 H4) (un4 : ∀ i : Nat, i ∉ vs → (wipeE e vs)[i]? ≠ some Sl.un → e4[i]? ≠ some Sl.un) : AtTurn K P1 e1 σ H1 D0 acc P4 (back e4 e vs) H4 := by
  obtain ⟨S5, st5⟩ := a.sim.unwipe S4 hw st4
  have hl : e4.length = e.length := by rw [S4.len, ← wipe_length σ2 vs, hw, wipe_length]; exact a.sim.len.symm
  have dD := a.sim.dom D0 a.hP
  obtain ⟨xs, h1, h2⟩ := a.ho
  refine ⟨S5, a.step.trans st5, fun i h => ?_, (st5.priv D0 dD a.hn).mpr a.hP, fun z => ?_, xs, st5.keep D0 _ h1 a.hn, RA.mono (st5.masks a.sim) _ _ h2⟩
  · have h' := a.un i h
    by_cases hi : i ∈ vs
    · rw [back_in hl hi]; exact h'
    · rw [back_out hi]
      exact un4 i hi (by rw [wipeE_out hi]; exact h')
  · rcases st5.own D0 z with w | w
    · exact a.hn w
    · exact dD w
theorem AtTurn.add {K : PySem.W.Frag} {P1 P : Addr → Prop} {e1 e : Ev} {σ : L2.St} {H1 H : Hp} {D0 : Addr} {acc : List D} {xs : List V} {y : D} {v : V} (a : AtTurn K P1 e1 σ H1 D0 acc P e H) (n0 : H1 D0 = none) (hx : H D0 = some (.lst xs)) (r : R K (mask H P) y v) :
    AtTurn K P1 e1 σ H1 D0 (acc ++ [y]) P e (upd H D0 (.lst (xs ++ [v]))) := by
  obtain ⟨xs', h1, h2⟩ := a.ho
  rw [hx] at h1
  cases h1
  have mm : Same (mask H P) (mask (upd H D0 (.lst (xs ++ [v]))) P) := mask_le fun b x h1 h2 => ⟨h1, by rw [upd_ne (show b ≠ D0 from fun z => h1 (by rw [z]; exact a.hP))]; exact h2⟩
  refine ⟨a.sim.priv a.hP a.hn, ⟨fun b o h n => ?_, a.step.priv, a.step.own, fun b h => ?_, a.step.io⟩, a.un, a.hP, a.hn, _, upd_same, RA.mono mm _ _ (h2.app (RA.one r))⟩
  · rw [upd_ne (ne_of_none h n0)]
    exact a.step.keep b o h n
  · by_cases hb : b = D0
    · rw [hb, upd_same]; simp
    · rw [upd_ne hb]; exact a.step.there b h
theorem AtTurn.fin {K : PySem.W.Frag} {P0 P1 P : Addr → Prop} {env e1 e : Ev} {σ : L2.St} {H0 H1 H : Hp} {D0 : Addr} {acc : List D} (a : AtTurn K P1 e1 σ H1 D0 acc P e H) (A1 : Aft K P0 env σ H0 P1 e1 H1) (n0 : H1 D0 = none) :
    Aft K P0 env σ H0 P e H ∧ Res K env σ H0 P e H (.own (.lst acc)) (.ref D0) := by
  refine ⟨A1.trans ⟨a.sim, a.step, a.un⟩, ⟨D0, rfl, a.hP, a.hn, a.ho⟩, fun o b _ z => ?_⟩
  cases z
  refine .inl ?_
  cases e0 : H0 D0 with
  | none => rfl
  | some o => exact absurd n0 (A1.step.there D0 (by rw [e0]; simp))
theorem AtTurn.start {K : PySem.W.Frag} {P1 : Addr → Prop} {e1 : Ev} {σ : L2.St} {H1 : Hp} {D0 : Addr} (S : Sim K P1 e1 σ H1) (n0 : H1 D0 = none) : AtTurn K P1 e1 σ H1 D0 [] (fun b => P1 b ∨ b = D0) e1 (upd H1 D0 (.lst [])) := by
  have n := newLst (K := K) (ds := []) (xs := []) S.dom n0 (show RA K _ [] [] from rfl)
  obtain ⟨S', st', r⟩ := n.fin S
  obtain ⟨a, ea, h1, h2, h3⟩ := r
  cases ea
  exact ⟨S', st', fun _ h => h, h1, h2, h3⟩
theorem wipe_same {σ σ' : L2.St} {us vs : List Nat} (h : ∀ j : Nat, j ∉ us → σ'[j]? = (wipe σ vs)[j]?) (hl : σ'.length = σ.length) (hs : ∀ j ∈ us, j ∈ vs) : wipe σ' vs = wipe σ vs := by
  refine List.ext_getElem? fun j => ?_
  by_cases hj : j ∈ vs
  · have key : ∀ τ : L2.St, (wipe τ vs)[j]? = if j < τ.length then some none else none := fun τ => by
      by_cases hi : j < τ.length
      · rw [if_pos hi]
        have h2 : j < (wipe τ vs).length := by rw [wipe_length]; exact hi
        cases e : (wipe τ vs)[j]? with
        | none => rw [List.getElem?_eq_getElem h2] at e; cases e
        | some o =>
          cases o with
          | none => rfl
          | some v => exact absurd hj (wipe_some e).2
      · rw [if_neg hi, List.getElem?_eq_none (by rw [wipe_length]; omega)]
    rw [key, key, hl]
  · rw [wipe_out hj, h j fun z => hj (hs j z)]
theorem pLc_ok {K : PySem.W.Frag} {us vs : List Nat} (hu : ∀ j ∈ us, j ∈ vs) {σ : L2.St} {H : Hp} {Q : VK} (h : liftE K (pLc ti g tt te vs) σ H Q) : tLc (liftI K ti) (liftG K us g) (liftT K tt) (liftE K te) vs σ H Q := by
  obtain ⟨P, env, K', S, t, k⟩ := h
  refine ⟨P, env, _, S, t, fun ds e1 P1 H1 J q A1 io => ?_⟩
  obtain ⟨I, i0, turn, done⟩ := q
  obtain ⟨Gd, Y, w, hG, hY⟩ := io
  intro D0 n0
  refine lc_it w (fun i H2 => ∃ acc P2 e2, I i acc e2 ∧ AtTurn K P1 e1 σ H1 D0 acc P2 e2 H2) ⟨[], _, e1, i0, AtTurn.start A1.sim n0⟩
    (fun i H2 _ ⟨acc, P2, e2, i2, a⟩ => hG H2 fun b o z => (mask_same H2 P2) b o (a.step.masks A1.sim b o z)) (fun i x H2 H3 hi ⟨acc, P2, e2, i2, a⟩ y => ?_) (fun H2 ⟨acc, P2, e2, i2, a⟩ => ?_)
  · obtain ⟨d, ed, n⟩ := hY i x H2 H3 P2 hi y a.sim.dom (a.step.masks A1.sim)
    have S2w := a.sim.wiped vs
    obtain ⟨S3, st3, r3⟩ := n.fin S2w
    refine ⟨P2, _, d, _, S3, r3, turn i d acc e2 ed i2, fun e4 σ4 k4 S4 st4 f4 => ?_⟩
    have hw4 : wipe σ4 vs = wipe σ vs := wipe_same (fun j hj => (f4.1 j hj).1) (by rw [f4.2, wipe_length]) hu
    have un4 : ∀ j : Nat, j ∉ vs → (wipeE e2 vs)[j]? ≠ some Sl.un → e4[j]? ≠ some Sl.un := fun j hj q => by
      rw [(f4.1 j fun z => hj (hu j z)).2]; exact q
    have st34 := st3.trans st4
    refine ⟨hw4, P2, e4, _, S4, k4, fun b e5 P5 H5 k5 A5 => ?_⟩
    have stA := st34.trans A5.step
    have unA : ∀ j : Nat, j ∉ vs → (wipeE e2 vs)[j]? ≠ some Sl.un → e5[j]? ≠ some Sl.un := fun j hj q => A5.un j (un4 j hj q)
    cases b with
    | false => exact iteF ⟨acc, P5, _, k5, a.next n0 A5.sim hw4 stA unA⟩
    | true =>
      refine iteT ⟨P5, e5, _, A5.sim, k5, fun r e6 v P6 H6 k6 A6 R6 => ?_⟩
      obtain ⟨y, e7, P7, ⟨hz, k7⟩, A7, r7⟩ := share_ok A6 R6 k6
      have a7 := a.next n0 A7.sim hw4 (stA.trans A7.step) fun j hj q => A7.un j (unA j hj q)
      obtain ⟨xs, hx, hr⟩ := a7.ho
      exact ⟨xs, hx, by rw [← hr.len]; exact hz, acc ++ [y], P7, _, k7, a7.add n0 hx r7⟩
  · obtain ⟨A2, R2⟩ := a.fin A1 n0
    exact k _ e2 _ P2 H2 (done acc e2 i2) A2 R2
theorem e_lc (hc : X.calm = true) (hN : X.N.Nodup) {us : List Nat} (hi : I X tg iter ti) (ok : BlkOk X.N X.env.scope scope own) (hg : ∀ (s : Shared) (H : Hp) (C : Addr) (cl : List (Str × Addr)) (fp : List Addr), G (X.blk s H scope (compEnvC scope cl C X.env) fp) tg us g)
    (ht : ∀ (s : Shared) (H : Hp) (C : Addr) (cl : List (Str × Addr)) (fp : List Addr), TsP (X.blk s H scope (compEnvC scope cl C X.env) fp) ifs tt) (he : ∀ (s : Shared) (H : Hp) (C : Addr) (cl : List (Str × Addr)) (fp : List Addr), E (X.blk s H scope (compEnvC scope cl C X.env) fp) elt te)
    (hu : ∀ j ∈ us, j ∈ own.map (·.2) := by decide) (hs : ∀ x, foldedSetIterable iter X.env x = pure x := by intro _; rfl) : E X (.ListComp elt [⟨tg, iter, ifs, 0⟩] scope pos) (pLc ti g tt te (own.map (·.2))) :=
  peImp (pe_lc (g := liftG X.K us g) (tt := liftT X.K tt) (te := liftE X.K te) hc hN hi ok hg ht he hs) fun σ H Q h => pLc_ok hu h
/-- x = [..] on one line -/
theorem setLc_ok {K : PySem.W.Frag} {te : TEp} {t : TE} {i : Nat} (h : ∀ σ H Q, liftE K te σ H Q → t σ H Q) {D' : Ends} {σ : L2.St} {H : Hp} (q : liftS K (sSet i te) D' σ H) : tAsg t (gName i) D' σ H := h σ H _ (set_fits q)
theorem s_setLc (i : Nat) {y : Str} {py spos : Pos} (hc : X.calm = true) (hN : X.N.Nodup) {us : List Nat} (hi : I X tg iter ti) (ok : BlkOk X.N X.env.scope scope own) (hg : ∀ (s : Shared) (H : Hp) (C : Addr) (cl : List (Str × Addr)) (fp : List Addr), G (X.blk s H scope (compEnvC scope cl C X.env) fp) tg us g)
    (ht : ∀ (s : Shared) (H : Hp) (C : Addr) (cl : List (Str × Addr)) (fp : List Addr), TsP (X.blk s H scope (compEnvC scope cl C X.env) fp) ifs tt) (he : ∀ (s : Shared) (H : Hp) (C : Addr) (cl : List (Str × Addr)) (fp : List Addr), E (X.blk s H scope (compEnvC scope cl C X.env) fp) elt te)
    (hsw : swapsWith (.ListComp elt [⟨tg, iter, ifs, 0⟩] scope pos) (some (.Name y py)) spos.line X.env = pure true) (hu : ∀ j ∈ us, j ∈ own.map (·.2) := by decide) (hy : X.N[i]? = some y := by rfl) (hyl : X.env.scope.names.lookup y = some .local := by rfl) (hs : ∀ x, foldedSetIterable iter X.env x = pure x := by intro _; rfl) :
    S X (.Assign [.Name y py] (.ListComp elt [⟨tg, iter, ifs, 0⟩] scope pos) spos) (sSet i (pLc ti g tt te (own.map (·.2)))) :=
  psImp (ps_setLc (g := liftG X.K us g) (tt := liftT X.K tt) (te := liftE X.K te) hc hN hy hyl hsw hi ok hg ht he hs) fun D' σ H h => setLc_ok (fun σ H Q h => pLc_ok hu h) h

/-! ### two clauses -/
def pLc2 (ti : TIp) (g : TGp) (tt : TTp) (ti1 : TIp) (g1 : TGp) (tt1 : TTp) (te : TEp) (vs vs1 : List Nat) : TEp := fun env K => ti env fun ds e1 => ∃ I : Nat → List D → Ev → Prop, I 0 [] e1 ∧
  (∀ k d acc e, ds[k]? = some d → I k acc e → g d (wipeE e vs) fun e2 => tt e2 fun b e3 => match b with
    | true => ti1 e3 fun ds1 e4 => ∃ I1 : Nat → List D → Ev → Prop, I1 0 acc e4 ∧
      (∀ j d1 acc1 e5, ds1[j]? = some d1 → I1 j acc1 e5 → g1 d1 (wipeE e5 vs1) fun e6 => tt1 e6 fun b1 e7 => match b1 with
        | true => te e7 fun r e8 => share e8 r fun y e9 => acc1.length < sizeLine ∧ I1 (j + 1) (acc1 ++ [y]) (back e9 e5 vs1)
        | false => I1 (j + 1) acc1 (back e7 e5 vs1)) ∧ ∀ acc1 e5, I1 ds1.length acc1 e5 → I (k + 1) acc1 (back e5 e vs)
    | false => I (k + 1) acc (back e3 e vs)) ∧ ∀ acc e, I ds.length acc e → K (.own (.lst acc)) e
structure BtTurn (K : PySem.W.Frag) (P0 : Addr → Prop) (e0 : Ev) (σ0 : L2.St) (H0 : Hp) (vs : List Nat) (D0 : Addr) (acc : List D) (P : Addr → Prop) (e : Ev) (σ : L2.St) (H : Hp) : Prop where
  sim : Sim K P e σ H
  step : StepX (fun b => b = D0) P0 e0 σ0 H0 P e σ H
  un : ∀ i : Nat, i ∉ vs → e0[i]? ≠ some Sl.un → e[i]? ≠ some Sl.un
  hP : P D0
  hn : ¬ OwnA e σ D0
  ho : ∃ xs, H D0 = some (.lst xs) ∧ RA K (mask H P) acc xs
theorem BtTurn.next {K : PySem.W.Frag} {P0 P P4 : Addr → Prop} {e0 e e4 : Ev} {σ0 σ σ2 : L2.St} {H0 H H4 : Hp} {D0 : Addr} {acc : List D} {vs vs1 : List Nat} (a : BtTurn K P0 e0 σ0 H0 vs D0 acc P e σ H) (hv : ∀ i ∈ vs1, i ∈ vs) (S4 : Sim K P4 e4 σ2 H4) (hw : wipe σ2 vs1 = wipe σ vs1)
    (st4 : Step P (wipeE e vs1) (wipe σ vs1) H P4 e4 σ2 H4) (un4 : ∀ i : Nat, i ∉ vs1 → (wipeE e vs1)[i]? ≠ some Sl.un → e4[i]? ≠ some Sl.un) : BtTurn K P0 e0 σ0 H0 vs D0 acc P4 (back e4 e vs1) σ H4 := by
  obtain ⟨S5, st5⟩ := a.sim.unwipe S4 hw st4
  have hl : e4.length = e.length := by rw [S4.len, ← wipe_length σ2 vs1, hw, wipe_length]; exact a.sim.len.symm
  have dD := a.sim.dom D0 a.hP
  obtain ⟨xs, h1, h2⟩ := a.ho
  refine ⟨S5, a.step.trans st5.x, fun i hi h => ?_, (st5.priv D0 dD a.hn).mpr a.hP, fun z => ?_, xs, st5.keep D0 _ h1 a.hn, RA.mono (st5.masks a.sim) _ _ h2⟩
  · have h' := a.un i hi h
    have hi1 : i ∉ vs1 := fun z => hi (hv i z)
    rw [back_out hi1]
    exact un4 i hi1 (by rw [wipeE_out hi1]; exact h')
  · rcases st5.own D0 z with w | w
    · exact a.hn w
    · exact dD w
theorem BtTurn.add {K : PySem.W.Frag} {P0 P : Addr → Prop} {e0 e : Ev} {σ0 σ : L2.St} {H0 H : Hp} {D0 : Addr} {acc : List D} {xs : List V} {vs : List Nat} {y : D} {v : V} (a : BtTurn K P0 e0 σ0 H0 vs D0 acc P e σ H) (hx : H D0 = some (.lst xs)) (r : R K (mask H P) y v) :
    BtTurn K P0 e0 σ0 H0 vs D0 (acc ++ [y]) P e σ (upd H D0 (.lst (xs ++ [v]))) := by
  obtain ⟨xs', h1, h2⟩ := a.ho
  rw [hx] at h1
  cases h1
  have mm : Same (mask H P) (mask (upd H D0 (.lst (xs ++ [v]))) P) := mask_le fun b x h1 h2 => ⟨h1, by rw [upd_ne (show b ≠ D0 from fun z => h1 (by rw [z]; exact a.hP))]; exact h2⟩
  refine ⟨a.sim.priv a.hP a.hn, ⟨fun b o x h n => ?_, a.step.priv, a.step.own, fun b h => ?_, a.step.io⟩, a.un, a.hP, a.hn, _, upd_same, RA.mono mm _ _ (h2.app (RA.one r))⟩
  · rw [upd_ne x]
    exact a.step.keep b o x h n
  · by_cases hb : b = D0
    · rw [hb, upd_same]; simp
    · rw [upd_ne hb]; exact a.step.there b h
/-- the inner loop is done -/
theorem AtTurn.behind {K : PySem.W.Frag} {P1 P P3 P4 : Addr → Prop} {e1 e e4 : Ev} {σ σ2 : L2.St} {H1 H H3 H4 : Hp} {D0 : Addr} {acc acc1 : List D} {vs : List Nat} (a : AtTurn K P1 e1 σ H1 D0 acc P e H) (n0 : H1 D0 = none) (hw : wipe σ2 vs = wipe σ vs)
    (b : BtTurn K P (wipeE e vs) (wipe σ vs) H vs D0 acc1 P4 e4 σ2 H4) : AtTurn K P1 e1 σ H1 D0 acc1 P4 (back e4 e vs) H4 := by
  obtain ⟨S5, st5⟩ := Sim.unwipeX (ex := fun c => c = D0) (fun c z => by rw [z]; exact ⟨a.hP, a.hn⟩) a.sim b.sim hw b.step
  have hl : e4.length = e.length := by rw [b.sim.len, ← wipe_length σ2 vs, hw, wipe_length]; exact a.sim.len.symm
  refine ⟨S5, (a.step.x.trans st5).un fun c z => by rw [z]; exact n0, fun i h => ?_, b.hP, fun z => ?_, b.ho⟩
  · have h' := a.un i h
    by_cases hi : i ∈ vs
    · rw [back_in hl hi]; exact h'
    · rw [back_out hi]
      exact b.un i hi (by rw [wipeE_out hi]; exact h')
  · rcases st5.own D0 z with w | w
    · exact a.hn w
    · exact a.sim.dom D0 a.hP w
theorem pLc2_ok {K : PySem.W.Frag} {us us1 vs vs1 : List Nat} (hu : ∀ j ∈ us, j ∈ vs) (hu1 : ∀ j ∈ us1, j ∈ vs1) (hv : ∀ i ∈ vs1, i ∈ vs) {σ : L2.St} {H : Hp} {Q : VK} (h : liftE K (pLc2 ti g tt ti1 g1 tt1 te vs vs1) σ H Q) :
    tLc2 (liftI K ti) (liftG K us g) (liftT K tt) (liftI K ti1) (liftG K us1 g1) (liftT K tt1) (liftE K te) vs vs1 σ H Q := by
  obtain ⟨P, env, K', S, t, k⟩ := h
  refine ⟨P, env, _, S, t, fun ds e1 P1 H1 J q A1 io => ?_⟩
  obtain ⟨I, i0, turn, done⟩ := q
  obtain ⟨Gd, Y, w, hG, hY⟩ := io
  intro D0 n0
  refine ⟨fun i m H2 => m = ds.length - i ∧ i ≤ ds.length ∧ ∃ acc P2 e2, I i acc e2 ∧ AtTurn K P1 e1 σ H1 D0 acc P2 e2 H2, ⟨ds.length, by simp, Nat.zero_le _, [], _, e1, i0, AtTurn.start A1.sim n0⟩, ?_⟩
  rintro i m H2 ⟨rfl, hi, acc, P2, e2, i2, a⟩
  have gd : Gd H2 := hG H2 fun b o z => (mask_same H2 P2) b o (a.step.masks A1.sim b o z)
  by_cases hlt : i < ds.length
  · refine .inr ⟨w.goes i H2 hlt gd, fun H3 => ∃ acc P2 e2, I (i + 1) acc e2 ∧ AtTurn K P1 e1 σ H1 D0 acc P2 e2 H3, fun H3 q => ⟨ds.length - (i + 1), by omega, rfl, hlt, q⟩, fun x H3 y => ?_⟩
    have y := w.yields i H2 x H3 hlt gd y
    obtain ⟨d, ed, n⟩ := hY i x H2 H3 P2 hlt y a.sim.dom (a.step.masks A1.sim)
    have S2w := a.sim.wiped vs
    obtain ⟨S3, st3, r3⟩ := n.fin S2w
    refine ⟨P2, _, d, _, S3, r3, turn i d acc e2 ed i2, fun e4 σ4 k4 S4 st4 f4 => ?_⟩
    have hw4 : wipe σ4 vs = wipe σ vs := wipe_same (fun j hj => (f4.1 j hj).1) (by rw [f4.2, wipe_length]) hu
    have un4 : ∀ j : Nat, j ∉ vs → (wipeE e2 vs)[j]? ≠ some Sl.un → e4[j]? ≠ some Sl.un := fun j hj q => by
      rw [(f4.1 j fun z => hj (hu j z)).2]; exact q
    have st34 := st3.trans st4
    refine ⟨hw4, P2, e4, _, S4, k4, fun b e5 P5 H5 k5 A5 => ?_⟩
    have stA := st34.trans A5.step
    have unA : ∀ j : Nat, j ∉ vs → (wipeE e2 vs)[j]? ≠ some Sl.un → e5[j]? ≠ some Sl.un := fun j hj q => A5.un j (un4 j hj q)
    cases b with
    | false => exact iteF ⟨acc, P5, _, k5, a.next n0 A5.sim hw4 stA unA⟩
    | true =>
      refine iteT ⟨P5, e5, _, A5.sim, k5, fun ds1 e6 P6 H6 J1 q1 A6 io1 => ?_⟩
      obtain ⟨I1, j0, turn1, done1⟩ := q1
      obtain ⟨Gd1, Y1, w1, hG1, hY1⟩ := io1
      have st6 := stA.trans A6.step
      have nO : ¬ OwnA (wipeE e2 vs) (wipe σ vs) D0 := fun ⟨j, z⟩ => a.hn ⟨j, (own_wipe z).2⟩
      have dD := a.sim.dom D0 a.hP
      obtain ⟨xs0, hx0, hr0⟩ := a.ho
      have b0 : BtTurn K P2 (wipeE e2 vs) (wipe σ vs) H2 vs D0 acc P6 e6 σ4 H6 := ⟨A6.sim, st6.x, fun j hj q => A6.un j (unA j hj q), (st6.priv D0 dD nO).mpr a.hP,
        fun z => (st6.own D0 z).elim nO dD, xs0, st6.keep D0 _ hx0 nO, RA.mono (st6.masks S2w) _ _ hr0⟩
      have b6 : Sim K P6 e6 σ4 H6 := A6.sim
      refine ⟨fun j m H7 => m = ds1.length - j ∧ j ≤ ds1.length ∧ ∃ acc1 P7 e7, I1 j acc1 e7 ∧ BtTurn K P2 (wipeE e2 vs) (wipe σ vs) H2 vs D0 acc1 P7 e7 σ4 H7 ∧ Same (mask H6 P6) (mask H7 P7), ⟨ds1.length, by simp, Nat.zero_le _, acc, P6, e6, j0, b0, fun _ _ z => z⟩, ?_⟩
      rintro j m H7 ⟨rfl, hj, acc1, P7, e7, i7, b7, sm7⟩
      have gd1 : Gd1 H7 := hG1 H7 fun b o z => (mask_same H7 P7) b o (sm7 b o z)
      by_cases hlt1 : j < ds1.length
      · refine .inr ⟨w1.goes j H7 hlt1 gd1, fun H8 => ∃ acc1 P7 e7, I1 (j + 1) acc1 e7 ∧ BtTurn K P2 (wipeE e2 vs) (wipe σ vs) H2 vs D0 acc1 P7 e7 σ4 H8 ∧ Same (mask H6 P6) (mask H8 P7), fun H8 q => ⟨ds1.length - (j + 1), by omega, rfl, hlt1, q⟩, fun x1 H8 y1 => ?_⟩
        have y1 := w1.yields j H7 x1 H8 hlt1 gd1 y1
        obtain ⟨d1, ed1, n1⟩ := hY1 j x1 H7 H8 P7 hlt1 y1 b7.sim.dom sm7
        have S7w := b7.sim.wiped vs1
        obtain ⟨S8, st8, r8⟩ := n1.fin S7w
        refine ⟨P7, _, d1, _, S8, r8, turn1 j d1 acc1 e7 ed1 i7, fun e9 σ9 k9 S9 st9 f9 => ?_⟩
        have hw9 : wipe σ9 vs1 = wipe σ4 vs1 := wipe_same (fun j hj => (f9.1 j hj).1) (by rw [f9.2, wipe_length]) hu1
        have un9 : ∀ j : Nat, j ∉ vs1 → (wipeE e7 vs1)[j]? ≠ some Sl.un → e9[j]? ≠ some Sl.un := fun j hj q => by
          rw [(f9.1 j fun z => hj (hu1 j z)).2]; exact q
        have st89 := st8.trans st9
        refine ⟨hw9, P7, e9, _, S9, k9, fun b eA PA HA kA AA => ?_⟩
        have stA1 := st89.trans AA.step
        have unA1 : ∀ j : Nat, j ∉ vs1 → (wipeE e7 vs1)[j]? ≠ some Sl.un → eA[j]? ≠ some Sl.un := fun j hj q => AA.un j (un9 j hj q)
        cases b with
        | false => exact iteF ⟨acc1, PA, _, kA, b7.next hv AA.sim hw9 stA1 unA1, fun b o z => (stA1.masks S7w) b o (sm7 b o z)⟩
        | true =>
          refine iteT ⟨PA, eA, _, AA.sim, kA, fun r eB v PB HB kB AB RB => ?_⟩
          obtain ⟨y, eC, PC, ⟨hz, kC⟩, AC, rC⟩ := share_ok AB RB kB
          have stC := stA1.trans AC.step
          have bC := b7.next hv AC.sim hw9 stC fun j hj q => AC.un j (unA1 j hj q)
          obtain ⟨xs, hx, hr⟩ := bC.ho
          refine ⟨xs, hx, by rw [← hr.len]; exact hz, acc1 ++ [y], PC, _, kC, bC.add hx rC, fun b o z => ?_⟩
          have z' := (stC.masks S7w) b o (sm7 b o z)
          obtain ⟨z1, z2⟩ := mask_of z'
          rw [mask_yes z1, upd_ne (show b ≠ D0 from fun w => z1 (by rw [w]; exact bC.hP))]
          exact z2
      · have e : j = ds1.length := by omega
        subst e
        exact .inl ⟨w1.stops H7 gd1, acc1, P7, _, done1 acc1 e7 i7, a.behind (P3 := P7) (H3 := H7) n0 hw4 b7⟩
  · have e : i = ds.length := by omega
    subst e
    obtain ⟨A2, R2⟩ := a.fin A1 n0
    exact .inl ⟨w.stops H2 gd, k _ e2 _ P2 H2 (done acc e2 i2) A2 R2⟩
theorem e_lc2 {vs1 : List Nat} (hc : X.calm = true) (hN : X.N.Nodup) {us us1 : List Nat} (hi : I X tg iter ti) (ok : BlkOk X.N X.env.scope scope own) (hv : ∀ i ∈ vs1, i ∈ own.map (·.2))
    (hg : ∀ (s : Shared) (H : Hp) (C : Addr) (cl : List (Str × Addr)) (fp : List Addr), G (X.blk s H scope (compEnvC scope cl C X.env) fp) tg us g)
    (ht : ∀ (s : Shared) (H : Hp) (C : Addr) (cl : List (Str × Addr)) (fp : List Addr), TsP (X.blk s H scope (compEnvC scope cl C X.env) fp) ifs tt)
    (hi1 : ∀ (s : Shared) (H : Hp) (C : Addr) (cl : List (Str × Addr)) (fp : List Addr), I (X.blk s H scope (compEnvC scope cl C X.env) fp) tg1 iter1 ti1)
    (hg1 : ∀ (s : Shared) (H : Hp) (C : Addr) (cl : List (Str × Addr)) (fp : List Addr), G (X.blk s H scope (compEnvC scope cl C X.env) fp) tg1 us1 g1)
    (ht1 : ∀ (s : Shared) (H : Hp) (C : Addr) (cl : List (Str × Addr)) (fp : List Addr), TsP (X.blk s H scope (compEnvC scope cl C X.env) fp) ifs1 tt1)
    (he : ∀ (s : Shared) (H : Hp) (C : Addr) (cl : List (Str × Addr)) (fp : List Addr), E (X.blk s H scope (compEnvC scope cl C X.env) fp) elt te)
    (hu : ∀ j ∈ us, j ∈ own.map (·.2) := by decide) (hu1 : ∀ j ∈ us1, j ∈ vs1 := by decide) (hs : ∀ x, foldedSetIterable iter X.env x = pure x := by intro _; rfl) (hs1 : ∀ env x, foldedSetIterable iter1 env x = pure x := by intro _ _; rfl) :
    E X (.ListComp elt [⟨tg, iter, ifs, 0⟩, ⟨tg1, iter1, ifs1, 0⟩] scope pos) (pLc2 ti g tt ti1 g1 tt1 te (own.map (·.2)) vs1) :=
  peImp (pe_lc2 (wi := liftI X.K ti) (g := liftG X.K us g) (tt := liftT X.K tt) (wi1 := liftI X.K ti1) (g1 := liftG X.K us1 g1) (tt1 := liftT X.K tt1) (te := liftE X.K te) hc hN hi ok hv hg ht hi1 hg1 ht1 he hs hs1) fun σ H Q h => pLc2_ok hu hu1 hv h
theorem s_setLc2 (i : Nat) {y : Str} {py spos : Pos} {vs1 : List Nat} (hc : X.calm = true) (hN : X.N.Nodup) {us us1 : List Nat} (hi : I X tg iter ti) (ok : BlkOk X.N X.env.scope scope own) (hv : ∀ i ∈ vs1, i ∈ own.map (·.2))
    (hg : ∀ (s : Shared) (H : Hp) (C : Addr) (cl : List (Str × Addr)) (fp : List Addr), G (X.blk s H scope (compEnvC scope cl C X.env) fp) tg us g)
    (ht : ∀ (s : Shared) (H : Hp) (C : Addr) (cl : List (Str × Addr)) (fp : List Addr), TsP (X.blk s H scope (compEnvC scope cl C X.env) fp) ifs tt)
    (hi1 : ∀ (s : Shared) (H : Hp) (C : Addr) (cl : List (Str × Addr)) (fp : List Addr), I (X.blk s H scope (compEnvC scope cl C X.env) fp) tg1 iter1 ti1)
    (hg1 : ∀ (s : Shared) (H : Hp) (C : Addr) (cl : List (Str × Addr)) (fp : List Addr), G (X.blk s H scope (compEnvC scope cl C X.env) fp) tg1 us1 g1)
    (ht1 : ∀ (s : Shared) (H : Hp) (C : Addr) (cl : List (Str × Addr)) (fp : List Addr), TsP (X.blk s H scope (compEnvC scope cl C X.env) fp) ifs1 tt1)
    (he : ∀ (s : Shared) (H : Hp) (C : Addr) (cl : List (Str × Addr)) (fp : List Addr), E (X.blk s H scope (compEnvC scope cl C X.env) fp) elt te)
    (hsw : swapsWith (.ListComp elt [⟨tg, iter, ifs, 0⟩, ⟨tg1, iter1, ifs1, 0⟩] scope pos) (some (.Name y py)) spos.line X.env = pure true)
    (hu : ∀ j ∈ us, j ∈ own.map (·.2) := by decide) (hu1 : ∀ j ∈ us1, j ∈ vs1 := by decide) (hy : X.N[i]? = some y := by rfl) (hyl : X.env.scope.names.lookup y = some .local := by rfl) (hs : ∀ x, foldedSetIterable iter X.env x = pure x := by intro _; rfl) (hs1 : ∀ env x, foldedSetIterable iter1 env x = pure x := by intro _ _; rfl) :
    S X (.Assign [.Name y py] (.ListComp elt [⟨tg, iter, ifs, 0⟩, ⟨tg1, iter1, ifs1, 0⟩] scope pos) spos) (sSet i (pLc2 ti g tt ti1 g1 tt1 te (own.map (·.2)) vs1)) :=
  psImp (ps_setLc2 (wi := liftI X.K ti) (g := liftG X.K us g) (tt := liftT X.K tt) (wi1 := liftI X.K ti1) (g1 := liftG X.K us1 g1) (tt1 := liftT X.K tt1) (te := liftE X.K te) hc hN hy hyl hsw hi ok hv hg ht hi1 hg1 ht1 he hs hs1) fun D' σ H h => setLc_ok (fun σ H Q h => pLc2_ok hu hu1 hv h) h
end
end PL
namespace PL
open PySem PySem.Spec PyProof.Rows L2

/-! ### defs -/
abbrev PSp := List D → (Rv → Prop) → Prop
/-- a def's promise over pure data -/
def spOf (K : PySem.W.Frag) (Sp : PSp) : L2.Sp := fun vs H Q _ => ∃ P ds K', (∀ a, P a → H a ≠ none) ∧ RA K (mask H P) ds vs ∧ Sp ds K' ∧ ∀ r w P' H', K' r → NewRes K P H P' H' r w → Q w H'
def startE (N : List Str) (ds : List D) : Ev := ds.map .sh ++ List.replicate (N.length - ds.length) .un
theorem startE_no {N : List Str} {ds : List D} {σ : L2.St} {a : Addr} : ¬ OwnA (startE N ds) σ a := fun ⟨i, s, o, q1, q2, _⟩ => by
  have hm : s ∈ startE N ds := List.mem_of_getElem? q1
  unfold startE at hm
  rcases List.mem_append.mp hm with h | h
  · obtain ⟨d, _, rfl⟩ := List.mem_map.mp h
    cases q2
  · rw [(List.mem_replicate.mp h).2] at q2
    cases q2
theorem startE_sim {K : PySem.W.Frag} {P : Addr → Prop} {H : Hp} {N : List Str} {ds : List D} {vs : List V} (dom : ∀ a, P a → H a ≠ none) (r : RA K (mask H P) ds vs) : Sim K P (startE N ds) (L2.start N vs) H := by
  have hl := r.len
  refine ⟨by simp [startE, L2.start, hl], dom, fun i s q => ?_, fun i j a q _ => absurd ⟨i, q⟩ startE_no⟩
  unfold startE at q
  unfold L2.start
  by_cases hi : i < ds.length
  · rw [List.getElem?_append_left (by simpa using hi), List.getElem?_map] at q
    rw [List.getElem?_append_left (by simpa [← hl] using hi), List.getElem?_map]
    cases e : ds[i]? with
    | none => rw [e] at q; cases q
    | some d =>
      rw [e] at q
      cases q
      obtain ⟨v, h1, h2⟩ := r.get e
      exact ⟨v, by rw [h1]; rfl, h2⟩
  · rw [List.getElem?_append_right (by simp; omega)] at q
    rw [(List.mem_replicate.mp (List.mem_of_getElem? q)).2]
    trivial
/-- the end of a def's body, for the caller -/
theorem end_res {K : PySem.W.Frag} {P P' : Addr → Prop} {env env' : Ev} {σ σ' : L2.St} {H H' : Hp} {r : Rv} {v : V} (dom : ∀ a, P a → H a ≠ none) (no : ∀ a, ¬ OwnA env σ a) (S' : Sim K P' env' σ' H') (st : Step P env σ H P' env' σ' H') (rv : RvOk K P' env' σ' H' r v) (nb : ∀ i, r ≠ .bor i)
    (nn : ∀ o a, r = .own o → v = .ref a → H a = none ∨ OwnA env σ a) : ∃ P2, NewRes K P H P2 H' r v := by
  have sm : Same H H' := fun a o h => st.keep a o h (no a)
  have pr : ∀ a, H a ≠ none → (P' a ↔ P a) := fun a h => st.priv a h (no a)
  cases r with
  | sh d => exact ⟨P, sm, rfl, R.mono (mask_le fun a o h1 h2 => ⟨fun z => h1 ((pr a (dom a z)).mpr z), h2⟩) _ _ rv⟩
  | own o =>
    obtain ⟨a, rfl, h1, h2, h3⟩ := rv
    have na : H a = none := (nn o a rfl rfl).elim id fun z => absurd z (no a)
    refine ⟨_, sm, a, rfl, na, rfl, h3.mono (mask_le fun b x q1 q2 => ⟨fun z => ?_, q2⟩)⟩
    rcases z with z | z
    · exact q1 ((pr b (dom b z)).mpr z)
    · exact q1 (by rw [z]; exact h1)
  | bor i => exact absurd rfl (nb i)
section
variable {P : Program} {w : World} {K : PySem.W.Frag} {mg : Str → Option Value} {base : Heap}
/-- THE RULE for a def: its body's reading from its start gives what is promised -/
theorem fnP {x qual : Str} {st : Stmt} {f : Addr} {fd : FuncData} {N ps : List Str} {k : Nat} {Sp : PSp} (F : Fun K x qual st f fd) (Sc : FnScope N ps (defScope st)) (len : ∀ ds K', Sp ds K' → ds.length = ps.length)
    (hbody : ∀ (cdv : Value) (A : Around) (outer : List Env) (s : Shared) (H : Hp) (E' : XK), Room k (A.deeper (envOfC qual (defScope st) s.heap.objs.size f cdv)) →
      ∃ t, SS (cxOf CX0 P w K mg base N qual (defScope st) f cdv A outer s H E').nox (defBody st) t ∧ ∀ ds K', Sp ds K' → t { nx := fun _ => K' (.sh .non), rt := fun r _ => K' r } (startE N ds)) :
    FnOk P w K mg base CX0 (k + 1) f fd ps (spOf K Sp) := by
  refine F.ok Sc (fun vs H Q E' ⟨P, ds, K', dom, r, sp, _⟩ => by rw [← r.len]; exact len ds K' sp) fun cdv A outer s H vs Q E' hr ⟨P, ds, K', dom, r, sp, k⟩ => ?_
  obtain ⟨t, ht, hq⟩ := hbody cdv A outer s H E' hr
  refine ⟨_, ht, P, startE N ds, _, startE_sim dom r, hq ds K' sp, ?_⟩
  refine ⟨fun env' σ' P' H' k' S' st' => ?_, fun _ _ _ _ z => z.elim, fun _ _ _ _ z => z.elim, fun r env' v σ' P' H' k' S' st' rv nn => ?_⟩
  · exact k (.sh .non) .non P H' k' ⟨fun a o h => st'.keep a o h startE_no, rfl, rfl⟩
  · intro nb
    obtain ⟨P2, n⟩ := end_res dom (fun a => startE_no) S' st' rv nb nn
    exact k _ v P2 H' k' n

/-! ### defs that change their first argument -/
abbrev PSi := Ow → List D → (Rv → Ow → Prop) → Prop
def NewIo (K : PySem.W.Frag) (P : Addr → Prop) (p : Addr) (H : Hp) (P' : Addr → Prop) (H' : Hp) (r : Rv) (o' : Ow) (w : V) : Prop :=
  (∀ b x, H b = some x → b ≠ p → H' b = some x) ∧ (∀ b, H b ≠ none → (P' b ↔ P b)) ∧ (∀ b, P' b → H' b ≠ none) ∧ OwnAt K (mask H' P') (H' p) o' ∧ match r with
    | .sh d => R K (mask H' P') d w
    | .own o2 => ∃ a, w = .ref a ∧ H a = none ∧ P' a ∧ OwnAt K (mask H' P') (H' a) o2
    | .bor _ => False
def spIo (K : PySem.W.Frag) (Sp : PSi) : L2.Sp := fun vs H Q _ => ∃ P p vs' o ds K', vs = .ref p :: vs' ∧ (∀ a, P a → H a ≠ none) ∧ P p ∧ OwnAt K (mask H P) (H p) o ∧ RA K (mask H P) ds vs' ∧ Sp o ds K' ∧
  ∀ r o' w P' H', K' r o' → NewIo K P p H P' H' r o' w → Q w H'
def ioAt (e : Ev) (k : Ow → Prop) : Prop := match e[0]? with
  | some (Sl.io o') => k o'
  | _ => False
def startI (N : List Str) (o : Ow) (ds : List D) : Ev := .io o :: (ds.map .sh ++ List.replicate (N.length - (ds.length + 1)) .un)
theorem startI_own {K : PySem.W.Frag} {N : List Str} {o : Ow} {ds : List D} {p : Addr} {vs : List V} {a : Addr} {i : Nat} (h : OwnI (startI N o ds) (L2.start N (.ref p :: vs)) a i) : i = 0 ∧ a = p := by
  obtain ⟨s, o', q1, q2, q3⟩ := h
  cases i with
  | zero =>
    refine ⟨rfl, ?_⟩
    have e : (L2.start N (V.ref p :: vs))[0]? = some (some (V.ref p)) := rfl
    rw [e] at q3
    cases q3; rfl
  | succ i =>
    have hm : s ∈ ds.map Sl.sh ++ List.replicate (N.length - (ds.length + 1)) .un := List.mem_of_getElem? (i := i) (by simpa [startI] using q1)
    rcases List.mem_append.mp hm with h | h
    · obtain ⟨d, _, rfl⟩ := List.mem_map.mp h
      cases q2
    · rw [(List.mem_replicate.mp h).2] at q2
      cases q2
theorem startI_sim {P : Addr → Prop} {H : Hp} {N : List Str} {o : Ow} {ds : List D} {p : Addr} {vs : List V} (dom : ∀ a, P a → H a ≠ none) (hp : P p) (ho : OwnAt K (mask H P) (H p) o) (r : RA K (mask H P) ds vs) : Sim K P (startI N o ds) (L2.start N (.ref p :: vs)) H := by
  have hl := r.len
  refine ⟨by simp [startI, L2.start, hl], dom, fun i s q => ?_, fun i j a q1 q2 => by rw [(startI_own (K := K) q1).1, (startI_own (K := K) q2).1]⟩
  cases i with
  | zero =>
    cases (show some (Sl.io o) = some s from q)
    exact ⟨p, rfl, hp, ho⟩
  | succ i =>
    have q' : (ds.map Sl.sh ++ List.replicate (N.length - (ds.length + 1)) Sl.un)[i]? = some s := by simpa [startI] using q
    show SlOk K P H ((vs.map some ++ List.replicate (N.length - (vs.length + 1)) none)[i]?) s
    by_cases hi : i < ds.length
    · rw [List.getElem?_append_left (by simpa using hi), List.getElem?_map] at q'
      rw [List.getElem?_append_left (by simpa [← hl] using hi), List.getElem?_map]
      cases e : ds[i]? with
      | none => rw [e] at q'; cases q'
      | some d =>
        rw [e] at q'
        cases q'
        obtain ⟨v, h1, h2⟩ := r.get e
        exact ⟨v, by rw [h1]; rfl, h2⟩
    · rw [List.getElem?_append_right (by simp; omega)] at q'
      rw [(List.mem_replicate.mp (List.mem_of_getElem? q')).2]
      trivial
theorem fnI {x qual : Str} {st : Stmt} {f : Addr} {fd : FuncData} {N ps : List Str} {k : Nat} {Sp : PSi} (F : Fun K x qual st f fd) (Sc : FnScope N ps (defScope st)) (len : ∀ o ds K', Sp o ds K' → ds.length + 1 = ps.length)
    (hbody : ∀ (cdv : Value) (A : Around) (outer : List Env) (s : Shared) (H : Hp) (E' : XK), Room k (A.deeper (envOfC qual (defScope st) s.heap.objs.size f cdv)) →
      ∃ t, SS (cxOf CX0 P w K mg base N qual (defScope st) f cdv A outer s H E').nox (defBody st) t ∧ ∀ o ds K', Sp o ds K' →
        t { nx := fun e => ioAt e fun o' => K' (.sh .non) o', rt := fun r e => ioAt e fun o' => K' r o' } (startI N o ds)) :
    FnOk P w K mg base CX0 (k + 1) f fd ps (spIo K Sp) := by
  refine F.ok Sc (fun vs H Q E' ⟨P, p, vs', o, ds, K', e, dom, hp, ho, r, sp, _⟩ => by rw [e, List.length_cons, ← r.len]; exact len o ds K' sp) fun cdv A outer s H vs Q E' hr ⟨P, p, vs', o, ds, K', e, dom, hp, ho, r, sp, k⟩ => ?_
  subst e
  obtain ⟨t, ht, hq⟩ := hbody cdv A outer s H E' hr
  refine ⟨_, ht, P, startI N o ds, _, startI_sim dom hp ho r, hq o ds K' sp, ?_⟩
  have ownS : ∀ a, OwnA (startI N o ds) (L2.start N (.ref p :: vs')) a → a = p := fun a ⟨i, h⟩ => (startI_own (K := K) h).2
  -- the first slot at the end
  have fin : ∀ (r : Rv) (env' : Ev) (v : V) (σ' : L2.St) (P' : Addr → Prop) (H' : Hp), (ioAt env' fun o' => K' r o') → Sim K P' env' σ' H' → Step P (startI N o ds) (L2.start N (.ref p :: vs')) H P' env' σ' H' → RvOk K P' env' σ' H' r v → (∀ o2 a, r = .own o2 → v = .ref a → H a = none ∨ OwnA (startI N o ds) (L2.start N (.ref p :: vs')) a) → (∀ i, r ≠ .bor i) → Q v H' := by
    intro r env' v σ' P' H' k' S' st' rv nn nb
    unfold ioAt at k'
    cases e0 : env'[0]? with
    | none => rw [e0] at k'; exact k'.elim
    | some s0 =>
      rw [e0] at k'
      cases s0 with
      | un => exact k'.elim
      | sh d => exact k'.elim
      | own o' => exact k'.elim
      | io o' =>
        obtain ⟨a, ha, hPa, hoa⟩ := S'.slot 0 _ e0
        obtain ⟨o1, _, ha0⟩ := st'.io 0 o' a e0 ha
        have ea : p = a := by
          have e1 : (L2.start N (V.ref p :: vs'))[0]? = some (some (V.ref p)) := rfl
          rw [e1] at ha0
          cases ha0; rfl
        subst ea
        have sm : ∀ b x, H b = some x → b ≠ p → H' b = some x := fun b x h hb => st'.keep b x h fun z => hb (ownS b z)
        have pr : ∀ b, H b ≠ none → (P' b ↔ P b) := fun b h => by
          by_cases hb : b = p
          · subst hb; exact ⟨fun _ => hp, fun _ => hPa⟩
          · exact st'.priv b h fun z => hb (ownS b z)
        cases r with
        | bor i => exact absurd rfl (nb i)
        | sh d =>
          have le : Same (mask H' P') (mask H' P) := mask_le fun b x h1 h2 => ⟨fun z => h1 ((pr b (dom b z)).mpr z), h2⟩
          exact k (.sh d) o' v P H' k' ⟨sm, fun _ _ => Iff.rfl, fun b hb => st'.there b (dom b hb), hoa.mono le, R.mono le _ _ rv⟩
        | own o2 =>
          obtain ⟨b, rfl, h1, h2, h3⟩ := rv
          have nb : H b = none := by
            rcases nn o2 b rfl rfl with z | z
            · exact z
            · have e := ownS b z
              subst e
              exact absurd ⟨0, _, _, e0, rfl, ha⟩ h2
          have le : Same (mask H' P') (mask H' fun c => P c ∨ c = b) := mask_le fun c x q1 q2 => ⟨fun z => z.elim (fun z => q1 ((pr c (dom c z)).mpr z)) fun z => q1 (by rw [z]; exact h1), q2⟩
          refine k (.own o2) o' _ (fun c => P c ∨ c = b) H' k' ⟨sm, fun c hc => ⟨fun z => z.elim id fun z => absurd (by rw [z]; exact nb) hc, .inl⟩, fun c hc => hc.elim (fun z => st'.there c (dom c z)) fun z => ?_, hoa.mono le, b, rfl, nb, .inr rfl, h3.mono le⟩
          rw [z]; exact S'.dom b h1
  exact ⟨fun env' σ' P' H' k' S' st' => fin (.sh .non) env' .non σ' P' H' k' S' st' rfl (fun _ _ z => nomatch z) (fun _ z => nomatch z), fun _ _ _ _ z => z.elim, fun _ _ _ _ z => z.elim, fun r env' v σ' P' H' k' S' st' rv nn nb => fin r env' v σ' P' H' k' S' st' rv nn nb⟩
end

/-! ### calls of defs -/
section
variable {X : Cx} {pos p apos : Pos} {e : Expr} {es : List Expr} {tA : TAp} {te : TEp}
def pCall (Sp : PSp) (tA : TAp) : TEp := fun env K => tA env fun rs e1 => shAll e1 rs fun ds e2 => Sp ds fun r => K r e2
theorem call_ok {K : PySem.W.Frag} {Sp : PSp} {σ : L2.St} {H : Hp} {Q : VK} (h : liftE K (pCall Sp tA) σ H Q) : tCall (spOf K Sp) [] E0 (liftA K tA) σ H Q := by
  obtain ⟨P, env, K', S, t, k⟩ := h
  refine ⟨P, env, _, S, t, fun rs e1 vs P1 H1 t1 A1 R1 => ?_⟩
  obtain ⟨ds, e2, P2, t2, A2, X2⟩ := shAll_ok A1.sim R1 t1
  have A3 := A1.trans A2
  rw [List.append_nil]
  exact ⟨P2, ds, _, A3.sim.dom, X2, t2, fun r w P' H' k' n => k r e2 w P' H' k' (A3.trans (n.aft A3.sim)) (Res.aft A3 (n.res A3.sim))⟩
theorem e_call {k : Nat} {f : Addr} {fd : FuncData} {ps : List Str} {Sp : PSp} {x : Str} (F : FnOk X.prog X.w X.K X.mg X.base CX0 k f fd ps (spOf X.K Sp)) (hr : Room k X.A) (hg : Gl X x) (hm : X.mg x = some (.ref f)) (hk : PySem.W.keepIn X.K (.ref f) = true) (hb : Binds X.K fd ps [])
    (ha : A X (e :: es) tA) (hdb : (x == ("__debug__" : Str)) = false := by decide) (he : starEach (e :: es) X.env = (false, eval e X.env) :: starEach es X.env := by rfl) (hpl : (backTo pos (starEach es X.env)).any (·.1) = false := by rfl) :
    E X (.Call (.Name x p) (e :: es) [] pos) (pCall Sp tA) := peImp (pe_call F hr hg hm hk hb .nil pass0 ha hdb he hpl) fun σ H Q h => call_ok h
theorem e_call0 {k : Nat} {f : Addr} {fd : FuncData} {ps : List Str} {Sp : PSp} {x : Str} (F : FnOk X.prog X.w X.K X.mg X.base CX0 k f fd ps (spOf X.K Sp)) (hr : Room k X.A) (hg : Gl X x) (hm : X.mg x = some (.ref f)) (hk : PySem.W.keepIn X.K (.ref f) = true) (hb : Binds X.K fd ps [])
    (hdb : (x == ("__debug__" : Str)) = false := by decide) : E X (.Call (.Name x p) [] [] pos) (pCall Sp pNil) := peImp (pe_call0 F hr hg hm hk hb .nil pass0 hdb) fun σ H Q h => by
  obtain ⟨P, env, K', S, t, k⟩ := h
  exact ⟨P, [], _, S.dom, rfl, t, fun r w P' H' k' n => k r env w P' H' k' (n.aft S) (n.res S)⟩
/-- f(x, ..) that changes the list in slot i -/
def pCallI (i : Nat) (Sp : PSi) (tA : TAp) : TEp := fun env K => match env[i]? with
  | some (.own _) => tA env fun rs e1 => shAll e1 rs fun ds e2 => match e2[i]? with
    | some (.own o) => Sp o ds fun r o' => K r (e2.set i (.own o'))
    | _ => False
  | some (.io _) => tA env fun rs e1 => shAll e1 rs fun ds e2 => match e2[i]? with
    | some (.io o) => Sp o ds fun r o' => K r (e2.set i (.io o'))
    | _ => False
  | _ => False
theorem callI_ok {K : PySem.W.Frag} {i : Nat} {Sp : PSi} {σ : L2.St} {H : Hp} {Q : VK} (h : liftE K (pCallI i Sp tA) σ H Q) : tCall (spIo K Sp) [] E0 (tCons (tVar i) (liftA K tA)) σ H Q := by
  obtain ⟨P, env, K', S, t, k⟩ := h
  have go : ∀ (v : V) (σi : σ[i]? = some (some v)) (mk : Ow → Sl) (hmk : ∀ o, (mk o).ow? = some o) (hk2 : ∀ o o', (∃ o1, mk o = .own o1) ∧ mk o' = .own o' ∨ (∃ o1, mk o = .io o1) ∧ mk o' = .io o') (K2 : List D → Ev → Prop)
      (hK : ∀ ds e2, K2 ds e2 → ∃ o, e2[i]? = some (mk o) ∧ Sp o ds fun r o' => K' r (e2.set i (mk o'))) (t : tA env fun rs e1 => shAll e1 rs K2), tCall (spIo K Sp) [] E0 (tCons (tVar i) (liftA K tA)) σ H Q := by
    intro v σi mk hmk hk2 K2 hK t
    refine ⟨v, σi, P, env, _, S, t, fun rs e1 vs P1 H1 t1 A1 R1 => ?_⟩
    obtain ⟨ds, e2, P2, t2, A2, X2⟩ := shAll_ok A1.sim R1 t1
    have A3 := A1.trans A2
    obtain ⟨o, eo, t2⟩ := hK ds e2 t2
    obtain ⟨a, ha, hPa, hoa⟩ := (A3.sim.slot i _ eo).at (hmk o)
    rw [σi] at ha
    cases ha
    rw [List.append_nil]
    refine ⟨P2, a, vs, o, ds, _, rfl, A3.sim.dom, hPa, hoa, X2, t2, fun r o' w P' H' k' n => ?_⟩
    obtain ⟨n1, n2, n3, n4, n5⟩ := n
    obtain ⟨S4, st4, un4, ow4⟩ := A3.sim.wr (s' := mk o') eo (hmk o) (hk2 o o') σi n1 n2 n3 n4
    refine k r _ w P' H' k' (A3.trans ⟨S4, st4, un4⟩) ⟨?_, fun o2 b e1 e2 => ?_⟩
    · cases r with
      | sh d => exact n5
      | own o2 =>
        obtain ⟨b, e, h1, h2, h3⟩ := n5
        exact ⟨b, e, h2, fun z => A3.sim.domN h1 (A3.sim.ownP (ow4 b z)), h3⟩
      | bor j => exact n5.elim
    · subst e1; subst e2
      obtain ⟨c, e, h1, _⟩ := n5
      cases e
      refine .inl ?_
      cases e0 : H b with
      | none => rfl
      | some x => exact absurd h1 (A3.step.there b (by rw [e0]; simp))
  unfold pCallI at t
  cases e0 : env[i]? with
  | none => simp only [e0] at t
  | some s0 =>
    cases s0 with
    | un => simp only [e0] at t
    | sh d => simp only [e0] at t
    | own o0 =>
      simp only [e0] at t
      obtain ⟨a, ha, _⟩ := S.slot i _ e0
      refine go _ ha Sl.own (fun _ => rfl) (fun o o' => .inl ⟨⟨o, rfl⟩, rfl⟩) _ (fun ds e2 q => ?_) t
      cases e1 : e2[i]? with
      | none => simp only [e1] at q
      | some s1 =>
        cases s1 with
        | own o => simp only [e1] at q; exact ⟨o, rfl, q⟩
        | _ => simp only [e1] at q
    | io o0 =>
      simp only [e0] at t
      obtain ⟨a, ha, _⟩ := S.slot i _ e0
      refine go _ ha Sl.io (fun _ => rfl) (fun o o' => .inr ⟨⟨o, rfl⟩, rfl⟩) _ (fun ds e2 q => ?_) t
      cases e1 : e2[i]? with
      | none => simp only [e1] at q
      | some s1 =>
        cases s1 with
        | io o => simp only [e1] at q; exact ⟨o, rfl, q⟩
        | _ => simp only [e1] at q
theorem e_callI (i : Nat) {k : Nat} {f : Addr} {fd : FuncData} {ps : List Str} {Sp : PSi} {x y : Str} {py : Pos} (F : FnOk X.prog X.w X.K X.mg X.base CX0 k f fd ps (spIo X.K Sp)) (hr : Room k X.A) (hg : Gl X x) (hm : X.mg x = some (.ref f)) (hk : PySem.W.keepIn X.K (.ref f) = true) (hb : Binds X.K fd ps [])
    (ha : A X es tA) (hN : X.N[i]? = some y := by rfl) (hv : Vis X.env.scope y := by first | exact Or.inl rfl | exact Or.inr (Or.inl rfl) | exact Or.inr (Or.inr rfl)) (hd : (y == ("__debug__" : Str)) = false := by decide)
    (hcd : (y == ("__classdict__" : Str)) = false := by decide) (hdb : (x == ("__debug__" : Str)) = false := by decide) (he : starEach (.Name y py :: es) X.env = (false, eval (.Name y py) X.env) :: starEach es X.env := by rfl) (hpl : (backTo pos (starEach es X.env)).any (·.1) = false := by rfl) :
    E X (.Call (.Name x p) (.Name y py :: es) [] pos) (pCallI i Sp tA) := peImp (pe_call F hr hg hm hk hb .nil pass0 (pa_cons (pv i hN hv hd hcd) ha he) hdb he hpl) fun σ H Q h => callI_ok h
end
end PL
namespace PL
open PySem PySem.Spec PyProof.Rows L2

/-! ### operators of numbers, texts, lists, tuples -/
section
variable {X : Cx}
theorem resSh {K : PySem.W.Frag} {P : Addr → Prop} {H : Hp} {d : D} {w : V} (h : R K (mask H P) d w) : NewRes K P H P H (.sh d) w := ⟨fun _ _ z => z, rfl, h⟩
theorem resInt {K : PySem.W.Frag} {P : Addr → Prop} {H : Hp} (i : Int) : NewRes K P H P H (.sh (.int i)) (.int i) := resSh rfl
theorem resBl {K : PySem.W.Frag} {P : Addr → Prop} {H : Hp} (b : Bool) : NewRes K P H P H (.sh (.bl b)) (.bl b) := resSh rfl
theorem resStr {K : PySem.W.Frag} {P : Addr → Prop} {H : Hp} (l : List Nat) : NewRes K P H P H (.sh (.str l)) (.str (toStr l)) := resSh rfl
def pAdd (x y : D) (K : Rv → Prop) : Prop := match x, y with
  | .int i, .int j => K (.sh (.int (i + j)))
  | .str a, .str b => a.length + b.length ≤ sizeLine ∧ K (.sh (.str (a ++ b)))
  | .lst a, .lst b => a.length + b.length ≤ sizeLine ∧ K (.own (.lst (a ++ b)))
  | .tup a, .tup b => (a ≠ [] ∧ a.length + b.length ≤ sizeLine) ∧ K (.sh (.tup (a ++ b)))
  | _, _ => False
theorem o_add : OpP X (binaryOp .Add) pAdd := by
  refine ⟨_, op_add.or (op_add_str.or (op_cat.or op_catT)), fun P H x y v u Kf Q dom rx ry f k => ?_⟩
  unfold pAdd at f
  split at f
  · rename_i i j
    cases (show v = _ from rx); cases (show u = _ from ry)
    exact .inl ⟨_, _, rfl, rfl, k _ _ _ _ f (resInt _)⟩
  · rename_i a b
    cases (show v = _ from rx); cases (show u = _ from ry)
    refine .inr (.inl ⟨_, _, rfl, rfl, by rw [toStr_len, toStr_len]; exact f.1, ?_⟩)
    rw [toStr_app]
    exact k _ _ _ _ f.2 (resStr _)
  · rename_i a b
    obtain ⟨p, xs, rfl, h1, h2⟩ := rx
    obtain ⟨q, ys, rfl, g1, g2⟩ := ry
    refine .inr (.inr (.inl ⟨_, _, _, _, rfl, rfl, h1, g1, by rw [← h2.len, ← g2.len]; exact f.1, fun z hz => ?_⟩))
    exact k _ _ _ _ f.2 (newLst dom hz (h2.app g2))
  · rename_i a b
    obtain ⟨p, xs, rfl, h1, h2⟩ := rx
    obtain ⟨q, ys, rfl, g1, g2⟩ := ry
    refine .inr (.inr (.inr ⟨_, _, _, _, rfl, rfl, Same.seqT (mask_same H P) h1, Same.seqT (mask_same H P) g1, fun z => f.1.1 ?_, by rw [← h2.len, ← g2.len]; exact f.1.2, fun z => ?_, fun z p2 hp => ?_⟩))
    · exact List.length_eq_zero_iff.mp (by rw [h2.len, z]; rfl)
    · subst z
      have e : b = [] := List.length_eq_zero_iff.mp (by rw [g2.len]; rfl)
      subst e
      refine k _ _ _ _ f.2 (resSh ?_)
      rw [List.append_nil]
      exact ⟨p, xs, rfl, h1, h2⟩
    · exact k _ _ _ _ f.2 (newTup dom hp (h2.app g2))
  · exact f.elim
def pSub (x y : D) (K : Rv → Prop) : Prop := match x, y with
  | .int i, .int j => K (.sh (.int (i - j)))
  | _, _ => False
theorem o_sub : OpP X (binaryOp .Sub) pSub := by
  refine ⟨_, op_sub, fun P H x y v u Kf Q dom rx ry f k => ?_⟩
  unfold pSub at f
  split at f
  · cases (show v = _ from rx); cases (show u = _ from ry)
    exact ⟨_, _, rfl, rfl, k _ _ _ _ f (resInt _)⟩
  · exact f.elim
/-- a product that fits: one side below 2^64, or together below some hundred million bits -/
def MulFits (i j : Int) : Prop := (-(2 ^ 64) < i ∧ i < 2 ^ 64) ∨ (-(2 ^ 64) < j ∧ j < 2 ^ 64) ∨ i.natAbs.log2 + j.natAbs.log2 < 100000000
theorem MulFits.ok {i j : Int} (h : MulFits i j) : IntMulOk i j := by
  rcases h with h | h | h
  · exact .of_left (intBits_le_64 h.1 h.2)
  · exact .of_right (intBits_le_64 h.1 h.2)
  · have b : ∀ x : Int, Builtin.Int.intBits x ≤ x.natAbs.log2 + 1 := fun x => by
      unfold Builtin.Int.intBits
      split <;> omega
    have h1 := b i
    have h2 := b j
    have e : bitsLine = 134217728 := by decide
    unfold IntMulOk
    intro z
    rw [Bool.and_eq_true] at z
    have z2 := z.2
    unfold Builtin.Int.intTooBig at z2
    have z3 := of_decide_eq_true z2
    rw [e] at z3
    omega
def reps (l : List Nat) (n : Nat) : List Nat := (List.replicate n l).flatten
def pMul (x y : D) (K : Rv → Prop) : Prop := match x, y with
  | .int i, .int j => MulFits i j ∧ K (.sh (.int (i * j)))
  | .str l, .int j => (-(2 ^ 62) ≤ j ∧ j < 2 ^ 62 ∧ l.length * j.toNat ≤ sizeLine) ∧ K (.sh (.str (reps l j.toNat)))
  | .lst ds, .int j => (-(2 ^ 62) ≤ j ∧ j < 2 ^ 62 ∧ ds.length * j.toNat ≤ sizeLine) ∧ K (.own (.lst (List.replicate j.toNat ds).flatten))
  | _, _ => False
theorem foldl_arr (l : List (Array Nat)) : ∀ a : Array Nat, l.foldl (· ++ ·) a = ⟨a.toList ++ (l.map Array.toList).flatten⟩ := by
  induction l with
  | nil => intro a; simp
  | cons x r ih =>
    intro a
    rw [List.foldl_cons, ih]
    simp
theorem txt_mul (l : List Nat) (n : Int) : Txt.mul (toStr l) n = toStr (reps l n.toNat) := by
  unfold Txt.mul
  by_cases h : n < 1
  · rw [if_pos h]
    have : n.toNat = 0 := by omega
    rw [this]
    rfl
  · rw [if_neg h]
    by_cases h2 : (n == 1 || (toStr l).length == 0) = true
    · rw [if_pos h2]
      rw [Bool.or_eq_true] at h2
      rcases h2 with h2 | h2
      · have e : n = 1 := by simpa using h2
        rw [e]
        unfold reps
        simp
      · have e : l = [] := by
          rw [toStr_len] at h2
          exact List.length_eq_zero_iff.mp (by simpa using h2)
        subst e
        unfold reps
        congr 1
        simp
    · rw [if_neg h2, foldl_arr]
      unfold toStr reps
      simp
theorem op_mul_str : OpR X (binaryOp .Mult) (fun x y H Q => ∃ l j, x = .str (toStr l) ∧ y = .int j ∧ (-(2 ^ 62) ≤ j ∧ j < 2 ^ 62 ∧ l.length * j.toNat ≤ sizeLine) ∧ Q (.str (toStr (reps l j.toNat))) H) := by
  intro pins s σ H x y v u Q I rx ry h
  obtain ⟨l, j, rfl, rfl, ⟨h1, h2, h3⟩, q⟩ := h
  obtain ⟨t, rfl⟩ := rx
  obtain ⟨t', rfl⟩ := ry
  refine SB.mul ⟨?_, fun a b => ?_, fun a b => ?_⟩ fun t2 k => ?_
  · rw [decide_eq_false (by omega), decide_eq_false (by omega)]; rfl
  · rw [toStr_len]
    have hs : sizeLine = 16777216 := sizeLine_eq
    have hl : (l.length : Int) * j ≤ 16777216 := by
      have e : ((l.length * j.toNat : Nat) : Int) = (l.length : Int) * j := by
        rw [Int.natCast_mul, Int.toNat_of_nonneg (by omega)]
      rw [← e]; omega
    have : (l.length : Int) ≤ (2 ^ 63 - 1) / j := (Int.le_ediv_iff_mul_le (by omega)).mpr (by omega)
    omega
  · rw [toStr_len]
    unfold Builtin.Str.tooLong
    simp
    exact h3
  · rw [txt_mul]
    exact ⟨.str _, H, I.tok _, ⟨_, rfl⟩, q⟩
theorem op_mulA : OpR X (binaryOp .Mult) (rI IntMulOk fun i j => .int (i * j)) := opI fun _ _ _ _ _ _ _ hc q => mul_int q hc
theorem o_mul : OpP X (binaryOp .Mult) pMul := by
  refine ⟨_, op_mulA.or (op_mul_str.or op_rep), fun P H x y v u Kf Q dom rx ry f k => ?_⟩
  unfold pMul at f
  split at f
  · cases (show v = _ from rx); cases (show u = _ from ry)
    exact .inl ⟨_, _, rfl, rfl, f.1.ok, k _ _ _ _ f.2 (resInt _)⟩
  · cases (show v = _ from rx); cases (show u = _ from ry)
    exact .inr (.inl ⟨_, _, rfl, rfl, f.1, k _ _ _ _ f.2 (resStr _)⟩)
  · rename_i ds j
    obtain ⟨p, xs, rfl, h1, h2⟩ := rx
    cases (show u = _ from ry)
    refine .inr (.inr ⟨_, _, _, rfl, rfl, h1, by omega, by omega, by rw [← h2.len]; exact f.1.2.2, fun z hz => ?_⟩)
    exact k _ _ _ _ f.2 (newLst dom hz (h2.rep _))
  · exact f.elim
def pFdiv (x y : D) (K : Rv → Prop) : Prop := match x, y with
  | .int i, .int j => (j ≠ 0 ∧ (j.natAbs < 1073741824 ∨ j.natAbs.log2 < 9000)) ∧ K (.sh (.int (i.fdiv j)))
  | _, _ => False
theorem op_fdivA : OpR X (binaryOp .FloorDiv) (rI (fun _ j => j ≠ 0 ∧ (j.natAbs < 1073741824 ∨ j.natAbs.log2 < 9000)) fun i j => .int (i.fdiv j)) := opI fun _ _ _ _ _ _ _ hc q => by
  rcases hc.2 with h | h
  · exact floordiv_int hc.1 q (.inl (PyProof.noPylong_small h))
  · exact floordiv_int hc.1 q (.inl (PyProof.noPylong_of_log2 h))
theorem o_fdiv : OpP X (binaryOp .FloorDiv) pFdiv := by
  refine ⟨_, op_fdivA, fun P H x y v u Kf Q dom rx ry f k => ?_⟩
  unfold pFdiv at f
  split at f
  · cases (show v = _ from rx); cases (show u = _ from ry)
    exact ⟨_, _, rfl, rfl, f.1, k _ _ _ _ f.2 (resInt _)⟩
  · exact f.elim
def pMod (x y : D) (K : Rv → Prop) : Prop := match x, y with
  | .int i, .int j => j ≠ 0 ∧ K (.sh (.int (i.fmod j)))
  | _, _ => False
theorem o_mod : OpP X (binaryOp .Mod) pMod := by
  refine ⟨_, op_modN, fun P H x y v u Kf Q dom rx ry f k => ?_⟩
  unfold pMod at f
  split at f
  · cases (show v = _ from rx); cases (show u = _ from ry)
    exact ⟨_, _, rfl, rfl, f.1, k _ _ _ _ f.2 (resInt _)⟩
  · exact f.elim
def pPow (x y : D) (K : Rv → Prop) : Prop := match x, y with
  | .int i, .int j => CPow i j ∧ K (.sh (.int (i ^ j.toNat)))
  | _, _ => False
theorem o_pow : OpP X (binaryOp .Pow) pPow := by
  refine ⟨_, op_pow, fun P H x y v u Kf Q dom rx ry f k => ?_⟩
  unfold pPow at f
  split at f
  · cases (show v = _ from rx); cases (show u = _ from ry)
    exact ⟨_, _, rfl, rfl, f.1, k _ _ _ _ f.2 (resInt _)⟩
  · exact f.elim
def pNeg (x : D) (K : Rv → Prop) : Prop := match x with
  | .int i => K (.sh (.int (-i)))
  | _ => False
theorem u_neg : UnP X (unaryOp .USub) pNeg := by
  refine ⟨_, un_neg, fun P H x v Kf Q dom rx f k => ?_⟩
  unfold pNeg at f
  split at f
  · cases (show v = _ from rx)
    exact ⟨_, rfl, k _ _ _ _ f (resInt _)⟩
  · exact f.elim
def pLt (x y : D) (K : Rv → Prop) : Prop := match x, y with
  | .int i, .int j => K (.sh (.bl (decide (i < j))))
  | .str a, .str b => K (.sh (.bl (decide (a < b))))
  | _, _ => False
theorem o_lt : OpP X (compareOp .Lt) pLt := by
  refine ⟨_, op_lt.or op_lt_str, fun P H x y v u Kf Q dom rx ry f k => ?_⟩
  unfold pLt at f
  split at f
  · cases (show v = _ from rx); cases (show u = _ from ry)
    exact .inl ⟨_, _, rfl, rfl, k _ _ _ _ f (resBl _)⟩
  · cases (show v = _ from rx); cases (show u = _ from ry)
    refine .inr ⟨_, _, rfl, rfl, ?_⟩
    rw [toStr_list, toStr_list]
    exact k _ _ _ _ f (resBl _)
  · exact f.elim
def pLe (x y : D) (K : Rv → Prop) : Prop := match x, y with
  | .int i, .int j => K (.sh (.bl (decide (i ≤ j))))
  | .str a, .str b => K (.sh (.bl (!decide (b < a))))
  | _, _ => False
theorem o_le : OpP X (compareOp .LtE) pLe := by
  refine ⟨_, op_le.or op_le_str, fun P H x y v u Kf Q dom rx ry f k => ?_⟩
  unfold pLe at f
  split at f
  · cases (show v = _ from rx); cases (show u = _ from ry)
    exact .inl ⟨_, _, rfl, rfl, k _ _ _ _ f (resBl _)⟩
  · cases (show v = _ from rx); cases (show u = _ from ry)
    refine .inr ⟨_, _, rfl, rfl, ?_⟩
    rw [toStr_list, toStr_list]
    exact k _ _ _ _ f (resBl _)
  · exact f.elim
def pGt (x y : D) (K : Rv → Prop) : Prop := match x, y with
  | .int i, .int j => K (.sh (.bl (decide (j < i))))
  | .str a, .str b => K (.sh (.bl (decide (b < a))))
  | _, _ => False
theorem o_gt : OpP X (compareOp .Gt) pGt := by
  refine ⟨_, op_gt.or op_gt_str, fun P H x y v u Kf Q dom rx ry f k => ?_⟩
  unfold pGt at f
  split at f
  · cases (show v = _ from rx); cases (show u = _ from ry)
    exact .inl ⟨_, _, rfl, rfl, k _ _ _ _ f (resBl _)⟩
  · cases (show v = _ from rx); cases (show u = _ from ry)
    refine .inr ⟨_, _, rfl, rfl, ?_⟩
    rw [toStr_list, toStr_list]
    exact k _ _ _ _ f (resBl _)
  · exact f.elim
def pGe (x y : D) (K : Rv → Prop) : Prop := match x, y with
  | .int i, .int j => K (.sh (.bl (decide (j ≤ i))))
  | .str a, .str b => K (.sh (.bl (!decide (a < b))))
  | _, _ => False
theorem o_ge : OpP X (compareOp .GtE) pGe := by
  refine ⟨_, op_ge.or op_ge_str, fun P H x y v u Kf Q dom rx ry f k => ?_⟩
  unfold pGe at f
  split at f
  · cases (show v = _ from rx); cases (show u = _ from ry)
    exact .inl ⟨_, _, rfl, rfl, k _ _ _ _ f (resBl _)⟩
  · cases (show v = _ from rx); cases (show u = _ from ry)
    refine .inr ⟨_, _, rfl, rfl, ?_⟩
    rw [toStr_list, toStr_list]
    exact k _ _ _ _ f (resBl _)
  · exact f.elim
end

/-! ### == of data -/
mutual
def py : D → PyData
  | .non => .none
  | .bl b => .bool b
  | .int i => .int i
  | .str l => .str (toStr l)
  | .lst ds => .list (pyA ds)
  | .lck ds => .list (pyA ds)
  | .tup ds => .tuple (pyA ds)
  | .dct _ _ => .dict []
def pyA : List D → List PyData
  | [] => []
  | d :: ds => py d :: pyA ds
end
/-- no dict within, and nested at most n deep -/
def Sh : Nat → D → Prop
  | _, .non => True
  | _, .bl _ => True
  | _, .int _ => True
  | _, .str _ => True
  | n + 1, .lst ds => ∀ d ∈ ds, Sh n d
  | n + 1, .lck ds => ∀ d ∈ ds, Sh n d
  | n + 1, .tup ds => ∀ d ∈ ds, Sh n d
  | _, _ => False
theorem pyA_map : ∀ ds : List D, pyA ds = ds.map py
  | [] => rfl
  | d :: ds => by rw [pyA, pyA_map ds]; rfl
theorem plainAll_of {ps : List PyData} (h : ∀ p ∈ ps, p.plain = true) : PyData.plainAll ps = true := by
  induction ps with
  | nil => rfl
  | cons p ps ih =>
    rw [PyData.plainAll, h p List.mem_cons_self, ih fun q hq => h q (List.mem_cons_of_mem _ hq)]
    rfl
theorem depthAll_of {ps : List PyData} {n : Nat} (h : ∀ p ∈ ps, p.depth ≤ n) : PyData.depthAll ps ≤ n := by
  induction ps with
  | nil => simp [PyData.depthAll]
  | cons p ps ih =>
    rw [PyData.depthAll]
    have h1 := h p List.mem_cons_self
    have h2 := ih fun q hq => h q (List.mem_cons_of_mem _ hq)
    omega
theorem Sh.py : ∀ {n : Nat} {d : D}, Sh n d → (py d).plain = true ∧ (py d).depth ≤ n + 1
  | n, .non, _ => ⟨rfl, by simp [PL.py, PyData.depth]⟩
  | n, .bl _, _ => ⟨rfl, by simp [PL.py, PyData.depth]⟩
  | n, .int _, _ => ⟨rfl, by simp [PL.py, PyData.depth]⟩
  | n, .str _, _ => ⟨rfl, by simp [PL.py, PyData.depth]⟩
  | 0, .lst _, h => by simp [Sh] at h
  | 0, .lck _, h => by simp [Sh] at h
  | 0, .tup _, h => by simp [Sh] at h
  | 0, .dct _ _, h => by simp [Sh] at h
  | n + 1, .dct _ _, h => by simp [Sh] at h
  | n + 1, .lst ds, h => by
    have h' : ∀ d ∈ ds, Sh n d := by simpa [Sh] using h
    have q : ∀ p ∈ pyA ds, p.plain = true ∧ p.depth ≤ n + 1 := fun p hp => by
      rw [pyA_map] at hp
      obtain ⟨d, hd, rfl⟩ := List.mem_map.mp hp
      exact Sh.py (h' d hd)
    refine ⟨?_, ?_⟩
    · rw [PL.py, PyData.plain]; exact plainAll_of fun p hp => (q p hp).1
    · rw [PL.py, PyData.depth]
      have := depthAll_of fun p hp => (q p hp).2
      omega
  | n + 1, .lck ds, h => by
    have h' : ∀ d ∈ ds, Sh n d := by simpa [Sh] using h
    have q : ∀ p ∈ pyA ds, p.plain = true ∧ p.depth ≤ n + 1 := fun p hp => by
      rw [pyA_map] at hp
      obtain ⟨d, hd, rfl⟩ := List.mem_map.mp hp
      exact Sh.py (h' d hd)
    refine ⟨?_, ?_⟩
    · rw [PL.py, PyData.plain]; exact plainAll_of fun p hp => (q p hp).1
    · rw [PL.py, PyData.depth]
      have := depthAll_of fun p hp => (q p hp).2
      omega
  | n + 1, .tup ds, h => by
    have h' : ∀ d ∈ ds, Sh n d := by simpa [Sh] using h
    have q : ∀ p ∈ pyA ds, p.plain = true ∧ p.depth ≤ n + 1 := fun p hp => by
      rw [pyA_map] at hp
      obtain ⟨d, hd, rfl⟩ := List.mem_map.mp hp
      exact Sh.py (h' d hd)
    refine ⟨?_, ?_⟩
    · rw [PL.py, PyData.plain]; exact plainAll_of fun p hp => (q p hp).1
    · rw [PL.py, PyData.depth]
      have := depthAll_of fun p hp => (q p hp).2
      omega
section
variable {X : Cx} {pins : List (Addr × Obj)} {σ : L2.St} {H : Hp} {s : Shared}
mutual
theorem R.reads (I : Inv X pins σ H s) : ∀ (d : D) (v : V) (u : Value), (py d).plain = true → R X.K H d v → RelV v u → ∃ as, Reads s.heap u (py d) as
  | .non, _, _, _, h, r => by
    cases (show _ = V.non from h)
    cases r
    exact ⟨_, Reads.none⟩
  | .bl b, _, _, _, h, r => by
    cases (show _ = V.bl b from h)
    cases r
    exact ⟨_, Reads.bool b⟩
  | .int i, _, _, _, h, r => by
    cases (show _ = V.int i from h)
    obtain ⟨t, rfl⟩ := r
    exact ⟨_, Reads.int i t⟩
  | .str l, _, _, _, h, r => by
    cases (show _ = V.str (toStr l) from h)
    obtain ⟨t, rfl⟩ := r
    exact ⟨_, Reads.str (toStr l) t⟩
  | .lst ds, _, _, p, h, r => by
    obtain ⟨a, xs, rfl, h1, h2⟩ := h
    cases r
    obtain ⟨its, rv, ⟨o, n, ho, hc, _, hd⟩, _⟩ := I.list (SqL.of h1)
    obtain ⟨as, hr⟩ := RA.readsAll I ds _ its (by simpa [py, PyData.plain] using p) h2 rv
    exact ⟨_, Reads.list ho hc hd hr⟩
  | .lck ds, _, _, p, h, r => by
    obtain ⟨a, xs, rfl, h1, h2⟩ := h
    cases r
    obtain ⟨its, rv, ⟨o, n, ho, hc, _, hd⟩, _⟩ := I.list h1
    obtain ⟨as, hr⟩ := RA.readsAll I ds _ its (by simpa [py, PyData.plain] using p) h2 rv
    exact ⟨_, Reads.list ho hc hd hr⟩
  | .tup ds, _, _, p, h, r => by
    obtain ⟨a, xs, rfl, h1, h2⟩ := h
    cases r
    obtain ⟨its, rv, ⟨o, ho, hc, n, hd⟩, _⟩ := I.tuple h1
    obtain ⟨as, hr⟩ := RA.readsAll I ds _ its (by simpa [py, PyData.plain] using p) h2 rv
    exact ⟨_, Reads.tuple ho hc hd hr⟩
  | .dct _ _, _, _, p, _, _ => by simp [py, PyData.plain] at p
theorem RA.readsAll (I : Inv X pins σ H s) : ∀ (ds : List D) (vs : List V) (us : List Value), PyData.plainAll (pyA ds) = true → RA X.K H ds vs → Vals vs us → ∃ as, ReadsAll s.heap us (pyA ds) as
  | [], _, _, _, h, r => by
    cases (show _ = [] from h)
    cases r
    exact ⟨_, ReadsAll.nil⟩
  | d :: ds, _, _, p, h, r => by
    obtain ⟨v, vr, rfl, h1, h2⟩ := h
    have p' : (py d).plain = true ∧ PyData.plainAll (pyA ds) = true := by simpa [pyA, PyData.plainAll] using p
    cases r with
    | cons r1 r2 =>
      obtain ⟨as, q1⟩ := R.reads I d _ _ p'.1 h1 r1
      obtain ⟨bs, q2⟩ := RA.readsAll I ds _ _ p'.2 h2 r2
      exact ⟨_, ReadsAll.cons q1 q2⟩
end
/-- == as Python has it -/
def eqD (x y : D) : Bool := PyData.eqv (py x) (py y)
def pEq (x y : D) (K : Rv → Prop) : Prop := (Sh 20 x ∧ Sh 20 y) ∧ K (.sh (.bl (eqD x y)))
def pNe (x y : D) (K : Rv → Prop) : Prop := (Sh 20 x ∧ Sh 20 y) ∧ K (.sh (.bl (!eqD x y)))
theorem op_eqQ (hu : X.A.units + 64 < cLine) : OpR X (compareOp .Eq) (fun v u H Q => ∃ x y, R X.K H x v ∧ R X.K H y u ∧ Sh 20 x ∧ Sh 20 y ∧ Q (.bl (eqD x y)) H) := by
  intro pins s σ H x y v u Q I rx ry h
  obtain ⟨d, e, hd, he, sd, se, q⟩ := h
  obtain ⟨as, r1⟩ := R.reads I d x v sd.py.1 hd rx
  obtain ⟨bs, r2⟩ := R.reads I e y u se.py.1 he ry
  have h1 := sd.py.2
  have hm : min (py d).depth (py e).depth ≤ (py d).depth := Nat.min_le_left _ _
  exact PySem.SeqAt.eq_plain r1 r2 sd.py.1 se.py.1 (by omega) ⟨.bl _, H, I, rfl, q⟩
theorem op_neQ (hu : X.A.units + 64 < cLine) : OpR X (compareOp .NotEq) (fun v u H Q => ∃ x y, R X.K H x v ∧ R X.K H y u ∧ Sh 20 x ∧ Sh 20 y ∧ Q (.bl (!eqD x y)) H) := by
  intro pins s σ H x y v u Q I rx ry h
  obtain ⟨d, e, hd, he, sd, se, q⟩ := h
  obtain ⟨as, r1⟩ := R.reads I d x v sd.py.1 hd rx
  obtain ⟨bs, r2⟩ := R.reads I e y u se.py.1 he ry
  have h1 := sd.py.2
  have hm : min (py d).depth (py e).depth ≤ (py d).depth := Nat.min_le_left _ _
  exact PySem.SeqAt.ne_plain r1 r2 sd.py.1 se.py.1 (by omega) ⟨.bl _, H, I, rfl, q⟩
theorem o_eq (hu : X.A.units + 64 < cLine) : OpP X (compareOp .Eq) pEq := ⟨_, op_eqQ hu, fun P H x y v u Kf Q dom rx ry f k =>
  ⟨x, y, Rt.full (mask_same H P) rx, Rt.full (mask_same H P) ry, f.1.1, f.1.2, k _ _ _ _ f.2 (resBl _)⟩⟩
theorem o_ne (hu : X.A.units + 64 < cLine) : OpP X (compareOp .NotEq) pNe := ⟨_, op_neQ hu, fun P H x y v u Kf Q dom rx ry f k =>
  ⟨x, y, Rt.full (mask_same H P) rx, Rt.full (mask_same H P) ry, f.1.1, f.1.2, k _ _ _ _ f.2 (resBl _)⟩⟩
end
end PL
namespace PL
open PySem PySem.Spec PyProof.Rows L2

/-! ### in, is -/
section
variable {X : Cx}
def kMem (k : DK) (ks : List DK) : Bool := ks.any fun z => decide (z = k)
theorem kMem_iff {k : DK} {ks : List DK} : kMem k ks = true ↔ k ∈ ks := by
  unfold kMem
  rw [List.any_eq_true]
  exact ⟨fun ⟨z, h1, h2⟩ => of_decide_eq_true h2 ▸ h1, fun h => ⟨k, h, decide_eq_true rfl⟩⟩
def pIn (neg : Bool) (x y : D) (K : Rv → Prop) : Prop := match y with
  | .lst ds => (Sh 20 x ∧ Sh 20 (.lst ds)) ∧ K (.sh (.bl (neg != ds.any fun z => eqD z x)))
  | .lck ds => (Sh 20 x ∧ Sh 20 (.lck ds)) ∧ K (.sh (.bl (neg != ds.any fun z => eqD z x)))
  | .tup ds => (Sh 20 x ∧ Sh 20 (.tup ds)) ∧ K (.sh (.bl (neg != ds.any fun z => eqD z x)))
  | .str l => match x with
    | .str [c] => K (.sh (.bl (neg != decide (c ∈ l))))
    | _ => False
  | .dct ks _ => match x with
    | .int i => K (.sh (.bl (neg != kMem (.inl i) ks)))
    | .str l => K (.sh (.bl (neg != kMem (.inr l) ks)))
    | _ => False
  | _ => False
theorem any_py (x : D) : ∀ ds : List D, ((pyA ds).any fun z => PyData.eqv z (py x)) = ds.any fun z => eqD z x
  | [] => rfl
  | d :: ds => by rw [pyA, List.any_cons, List.any_cons, any_py x ds]; rfl
theorem valV_isSome {kvs : List (Key × V)} {ks : List DK} (h : kvs.map (·.1) = ks.map kOf) (k : DK) : (valV kvs (kOf k)).isSome = kMem k ks := by
  have h2 : (valV kvs (kOf k)).isSome = (kvs.map (·.1)).any fun z => decide (z = kOf k) := by
    clear h
    induction kvs with
    | nil => rfl
    | cons p r ih =>
      unfold valV at ih ⊢
      rw [List.find?_cons, List.map_cons, List.any_cons]
      by_cases e : p.1 = kOf k
      · rw [decide_eq_true e]; rfl
      · rw [decide_eq_false e, Bool.false_or]
        exact ih
  rw [h2, h, List.any_map]
  unfold kMem
  congr 1
  funext z
  show decide (kOf z = kOf k) = decide (z = k)
  by_cases e : z = k
  · rw [decide_eq_true e, e, decide_eq_true rfl]
  · rw [decide_eq_false e, decide_eq_false fun w => e (kOf_inj w)]
def keyD : D → Option DK
  | .int i => some (.inl i)
  | .str l => some (.inr l)
  | _ => none
theorem keyD_V {Hs H : Hp} {K : PySem.W.Frag} {d : D} {v : V} {k : DK} (h : keyD d = some k) (r : Rt K Hs H d v) : v = kV (kOf k) := by
  cases d with
  | int i => cases h; exact r
  | str l => cases h; exact r
  | _ => cases h
theorem op_inQ (hu : X.A.units + 65 < cLine) : OpR X (compareOp .In) (fun v u H Q => ∃ x y, R X.K H x v ∧ R X.K H y u ∧ pIn false x y fun r => match r with
    | .sh (.bl b) => Q (.bl b) H
    | _ => False) := by
  intro pins s σ H vx vy v u Q I rx ry h
  obtain ⟨d, e, hd, he, q⟩ := h
  have room : ∀ (ds : List D), Sh 20 d → X.A.units + 1 + min (PyData.depthAll (pyA ds)) (py d).depth < cLine := fun ds sd => by
    have h1 := sd.py.2
    have hm : min (PyData.depthAll (pyA ds)) (py d).depth ≤ (py d).depth := Nat.min_le_right _ _
    omega
  have neg1 : ∀ b : Bool, (false != b) = b := fun b => by cases b <;> rfl
  cases e with
  | lst ds =>
    obtain ⟨⟨s1, s2⟩, q⟩ := q
    obtain ⟨as, r1⟩ := R.reads I d _ _ s1.py.1 hd rx
    obtain ⟨bs, r2⟩ := R.reads I (.lst ds) _ _ s2.py.1 he ry
    refine PySem.SeqAt.in_list_data r2 r1 (by simpa [py, PyData.plain] using s2.py.1) s1.py.1 (room ds s1) ?_
    rw [any_py, ← neg1 (ds.any _)]
    exact ⟨.bl _, H, I, rfl, q⟩
  | lck ds =>
    obtain ⟨⟨s1, s2⟩, q⟩ := q
    obtain ⟨as, r1⟩ := R.reads I d _ _ s1.py.1 hd rx
    obtain ⟨bs, r2⟩ := R.reads I (.lck ds) _ _ s2.py.1 he ry
    refine PySem.SeqAt.in_list_data r2 r1 (by simpa [py, PyData.plain] using s2.py.1) s1.py.1 (room ds s1) ?_
    rw [any_py, ← neg1 (ds.any _)]
    exact ⟨.bl _, H, I, rfl, q⟩
  | tup ds =>
    obtain ⟨⟨s1, s2⟩, q⟩ := q
    obtain ⟨as, r1⟩ := R.reads I d _ _ s1.py.1 hd rx
    obtain ⟨bs, r2⟩ := R.reads I (.tup ds) _ _ s2.py.1 he ry
    refine PySem.SeqAt.in_tuple_data r2 r1 (by simpa [py, PyData.plain] using s2.py.1) s1.py.1 (room ds s1) ?_
    rw [any_py, ← neg1 (ds.any _)]
    exact ⟨.bl _, H, I, rfl, q⟩
  | str l =>
    cases d with
    | str m =>
      cases m with
      | nil => exact q.elim
      | cons c r =>
        cases r with
        | nil =>
          refine op_in_sign pins s σ H vx vy v u Q I rx ry ⟨c, toStr l, hd, he, ?_⟩
          rw [toStr_list, ← neg1 (decide _)]
          exact q
        | cons c2 r => exact q.elim
    | _ => exact q.elim
  | dct ks vs =>
    obtain ⟨a, kvs, rfl, h1, h2, h3⟩ := he
    cases ry
    have go : ∀ k : DK, vx = kV (kOf k) → Q (.bl (false != kMem k ks)) H → wpAny (model X.prog X.w) X.A (compareOp .In v (.ref a)) (EP X pins σ Q) X.xe s := fun k e q => by
      subst e
      refine d_in (by omega) I (DGet.k h1) rx fun s' I' => ⟨.bl _, H, I', rfl, ?_⟩
      rw [valV_isSome h2, ← neg1 (kMem _ _)]
      exact q
    cases d with
    | int i => exact go (.inl i) hd q
    | str l => exact go (.inr l) hd q
    | _ => exact q.elim
  | _ => exact q.elim
theorem op_notInQ (hu : X.A.units + 65 < cLine) : OpR X (compareOp .NotIn) (fun v u H Q => ∃ x y, R X.K H x v ∧ R X.K H y u ∧ pIn true x y fun r => match r with
    | .sh (.bl b) => Q (.bl b) H
    | _ => False) := by
  intro pins s σ H vx vy v u Q I rx ry h
  obtain ⟨d, e, hd, he, q⟩ := h
  have room : ∀ (ds : List D), Sh 20 d → X.A.units + 1 + min (PyData.depthAll (pyA ds)) (py d).depth < cLine := fun ds sd => by
    have h1 := sd.py.2
    have hm : min (PyData.depthAll (pyA ds)) (py d).depth ≤ (py d).depth := Nat.min_le_right _ _
    omega
  have neg1 : ∀ b : Bool, (true != b) = !b := fun b => by cases b <;> rfl
  cases e with
  | lst ds =>
    obtain ⟨⟨s1, s2⟩, q⟩ := q
    obtain ⟨as, r1⟩ := R.reads I d _ _ s1.py.1 hd rx
    obtain ⟨bs, r2⟩ := R.reads I (.lst ds) _ _ s2.py.1 he ry
    refine PySem.SeqAt.notIn_list_data r2 r1 (by simpa [py, PyData.plain] using s2.py.1) s1.py.1 (room ds s1) ?_
    rw [any_py, ← neg1 (ds.any _)]
    exact ⟨.bl _, H, I, rfl, q⟩
  | lck ds =>
    obtain ⟨⟨s1, s2⟩, q⟩ := q
    obtain ⟨as, r1⟩ := R.reads I d _ _ s1.py.1 hd rx
    obtain ⟨bs, r2⟩ := R.reads I (.lck ds) _ _ s2.py.1 he ry
    refine PySem.SeqAt.notIn_list_data r2 r1 (by simpa [py, PyData.plain] using s2.py.1) s1.py.1 (room ds s1) ?_
    rw [any_py, ← neg1 (ds.any _)]
    exact ⟨.bl _, H, I, rfl, q⟩
  | tup ds =>
    obtain ⟨⟨s1, s2⟩, q⟩ := q
    obtain ⟨as, r1⟩ := R.reads I d _ _ s1.py.1 hd rx
    obtain ⟨bs, r2⟩ := R.reads I (.tup ds) _ _ s2.py.1 he ry
    refine PySem.SeqAt.notIn_tuple_data r2 r1 (by simpa [py, PyData.plain] using s2.py.1) s1.py.1 (room ds s1) ?_
    rw [any_py, ← neg1 (ds.any _)]
    exact ⟨.bl _, H, I, rfl, q⟩
  | str l =>
    cases d with
    | str m =>
      cases m with
      | nil => exact q.elim
      | cons c r =>
        cases r with
        | nil =>
          refine op_notIn_sign pins s σ H vx vy v u Q I rx ry ⟨c, toStr l, hd, he, ?_⟩
          rw [toStr_list, ← neg1 (decide _)]
          exact q
        | cons c2 r => exact q.elim
    | _ => exact q.elim
  | dct ks vs =>
    obtain ⟨a, kvs, rfl, h1, h2, h3⟩ := he
    cases ry
    have go : ∀ k : DK, vx = kV (kOf k) → Q (.bl (true != kMem k ks)) H → wpAny (model X.prog X.w) X.A (compareOp .NotIn v (.ref a)) (EP X pins σ Q) X.xe s := fun k e q => by
      subst e
      refine d_notIn (by omega) I (DGet.k h1) rx fun s' I' => ⟨.bl _, H, I', rfl, ?_⟩
      rw [valV_isSome h2, ← neg1 (kMem _ _)]
      exact q
    cases d with
    | int i => exact go (.inl i) hd q
    | str l => exact go (.inr l) hd q
    | _ => exact q.elim
  | _ => exact q.elim
theorem pIn_res {K0 : PySem.W.Frag} {neg : Bool} {P : Addr → Prop} {H : Hp} {x y : D} {Kf : Rv → Prop} {Q : V → Hp → Prop} (f : pIn neg x y Kf) (k : ∀ q w P' H', Kf q → NewRes K0 P H P' H' q w → Q w H') : pIn neg x y fun r => match r with
    | .sh (.bl b) => Q (.bl b) H
    | _ => False := by
  have fin : ∀ b, Kf (.sh (.bl b)) → Q (.bl b) H := fun b q => k _ _ _ _ q (resBl b)
  cases y with
  | lst ds => exact ⟨f.1, fin _ f.2⟩
  | lck ds => exact ⟨f.1, fin _ f.2⟩
  | tup ds => exact ⟨f.1, fin _ f.2⟩
  | str l =>
    cases x with
    | str m =>
      cases m with
      | nil => exact f.elim
      | cons c r =>
        cases r with
        | nil => exact fin _ f
        | cons c2 r => exact f.elim
    | _ => exact f.elim
  | dct ks vs =>
    cases x with
    | int i => exact fin _ f
    | str l => exact fin _ f
    | _ => exact f.elim
  | _ => exact f.elim
theorem o_in (hu : X.A.units + 65 < cLine) : OpP X (compareOp .In) (pIn false) := ⟨_, op_inQ hu, fun P H x y v u Kf Q dom rx ry f k =>
  ⟨x, y, Rt.full (mask_same H P) rx, Rt.full (mask_same H P) ry, pIn_res f k⟩⟩
theorem o_notIn (hu : X.A.units + 65 < cLine) : OpP X (compareOp .NotIn) (pIn true) := ⟨_, op_notInQ hu, fun P H x y v u Kf Q dom rx ry f k =>
  ⟨x, y, Rt.full (mask_same H P) rx, Rt.full (mask_same H P) ry, pIn_res f k⟩⟩
def isNonD (x : D) : Bool := match x with
  | .non => true
  | _ => false
def isBlD (b : Bool) (x : D) : Bool := match x with
  | .bl c => c == b
  | _ => false
def pIs (neg : Bool) (x y : D) (K : Rv → Prop) : Prop := match y with
  | .non => K (.sh (.bl (neg != isNonD x)))
  | .bl b => K (.sh (.bl (neg != isBlD b x)))
  | _ => False
theorem op_isQ : OpR X (compareOp .Is) (fun v u H Q => (u = .non ∧ Q (.bl (decide (v = .non))) H) ∨ ∃ b, u = .bl b ∧ Q (.bl (decide (v = .bl b))) H) := by
  intro pins s σ H x y v u Q I rx ry h
  rcases h with ⟨rfl, q⟩ | ⟨b, rfl, q⟩
  · exact op_isN pins s σ H x _ v u Q I rx ry ⟨rfl, q⟩
  · cases ry
    have e : ∀ c, decide (x = .bl b) = c → (v == Value.bool b) = c := fun c e => by
      rw [← e]
      cases x with
      | bl c => cases rx; cases b <;> cases c <;> rfl
      | non => cases rx; rfl
      | int i => obtain ⟨t, rfl⟩ := rx; rfl
      | str i => obtain ⟨t, rfl⟩ := rx; rfl
      | byt i => obtain ⟨t, rfl⟩ := rx; rfl
      | flt i => obtain ⟨t, rfl⟩ := rx; rfl
      | ref i => cases rx; rfl
      | ty i => cases rx; rfl
    have go : wpAny (model X.prog X.w) X.A (compareOp .Is v (.bool b)) (EP X pins σ Q) X.xe s := by
      have fin : EP X pins σ Q (.bool (v == Value.bool b)) s := fin_bl I q (e _ rfl).symm
      cases x with
      | bl c => cases rx; exact wpAny_pure fin
      | non => cases rx; exact wpAny_pure fin
      | int i => obtain ⟨t, rfl⟩ := rx; exact wpAny_pure fin
      | str i => obtain ⟨t, rfl⟩ := rx; exact wpAny_pure fin
      | byt i => obtain ⟨t, rfl⟩ := rx; exact wpAny_pure fin
      | flt i => obtain ⟨t, rfl⟩ := rx; exact wpAny_pure fin
      | ref i => cases rx; exact wpAny_pure fin
      | ty i => cases rx; exact wpAny_pure fin
    exact go
theorem op_isNotQ : OpR X (compareOp .IsNot) (fun v u H Q => (u = .non ∧ Q (.bl (!decide (v = .non))) H) ∨ ∃ b, u = .bl b ∧ Q (.bl (!decide (v = .bl b))) H) := by
  intro pins s σ H x y v u Q I rx ry h
  rcases h with ⟨rfl, q⟩ | ⟨b, rfl, q⟩
  · exact op_notN pins s σ H x _ v u Q I rx ry ⟨rfl, q⟩
  · cases ry
    have e : ∀ c, decide (x = .bl b) = c → (v == Value.bool b) = c := fun c e => by
      rw [← e]
      cases x with
      | bl c => cases rx; cases b <;> cases c <;> rfl
      | non => cases rx; rfl
      | int i => obtain ⟨t, rfl⟩ := rx; rfl
      | str i => obtain ⟨t, rfl⟩ := rx; rfl
      | byt i => obtain ⟨t, rfl⟩ := rx; rfl
      | flt i => obtain ⟨t, rfl⟩ := rx; rfl
      | ref i => cases rx; rfl
      | ty i => cases rx; rfl
    have go : wpAny (model X.prog X.w) X.A (compareOp .IsNot v (.bool b)) (EP X pins σ Q) X.xe s := by
      have fin : EP X pins σ Q (.bool (!(v == Value.bool b))) s := fin_bl I q (by rw [e _ rfl])
      cases x with
      | bl c => cases rx; exact wpAny_pure fin
      | non => cases rx; exact wpAny_pure fin
      | int i => obtain ⟨t, rfl⟩ := rx; exact wpAny_pure fin
      | str i => obtain ⟨t, rfl⟩ := rx; exact wpAny_pure fin
      | byt i => obtain ⟨t, rfl⟩ := rx; exact wpAny_pure fin
      | flt i => obtain ⟨t, rfl⟩ := rx; exact wpAny_pure fin
      | ref i => cases rx; exact wpAny_pure fin
      | ty i => cases rx; exact wpAny_pure fin
    exact go
theorem isNonV {K : PySem.W.Frag} {Hs H : Hp} {x : D} {v : V} (r : Rt K Hs H x v) : decide (v = .non) = isNonD x := by
  cases x with
  | non => rw [show v = _ from r]; rfl
  | bl b => rw [show v = _ from r]; rfl
  | int b => rw [show v = _ from r]; rfl
  | str b => rw [show v = _ from r]; rfl
  | lst ds => obtain ⟨a, xs, rfl, _⟩ := r; rfl
  | lck ds => obtain ⟨a, xs, rfl, _⟩ := r; rfl
  | tup ds => obtain ⟨a, xs, rfl, _⟩ := r; rfl
  | dct ks vs => obtain ⟨a, xs, rfl, _⟩ := r; rfl
theorem isBlV {K : PySem.W.Frag} {Hs H : Hp} {x : D} {v : V} (b : Bool) (r : Rt K Hs H x v) : decide (v = .bl b) = isBlD b x := by
  cases x with
  | non => rw [show v = _ from r]; rfl
  | bl c => rw [show v = _ from r]; cases b <;> cases c <;> rfl
  | int b => rw [show v = _ from r]; rfl
  | str b => rw [show v = _ from r]; rfl
  | lst ds => obtain ⟨a, xs, rfl, _⟩ := r; rfl
  | lck ds => obtain ⟨a, xs, rfl, _⟩ := r; rfl
  | tup ds => obtain ⟨a, xs, rfl, _⟩ := r; rfl
  | dct ks vs => obtain ⟨a, xs, rfl, _⟩ := r; rfl
theorem o_is : OpP X (compareOp .Is) (pIs false) := by
  refine ⟨_, op_isQ, fun P H x y v u Kf Q dom rx ry f k => ?_⟩
  have neg1 : ∀ b : Bool, (false != b) = b := fun b => by cases b <;> rfl
  cases y with
  | non => exact .inl ⟨ry, by rw [isNonV rx, ← neg1 (isNonD x)]; exact k _ _ _ _ f (resBl _)⟩
  | bl b => exact .inr ⟨b, ry, by rw [isBlV b rx, ← neg1 (isBlD b x)]; exact k _ _ _ _ f (resBl _)⟩
  | _ => exact f.elim
theorem o_isNot : OpP X (compareOp .IsNot) (pIs true) := by
  refine ⟨_, op_isNotQ, fun P H x y v u Kf Q dom rx ry f k => ?_⟩
  have neg1 : ∀ b : Bool, (true != b) = !b := fun b => by cases b <;> rfl
  cases y with
  | non => exact .inl ⟨ry, by rw [isNonV rx, ← neg1 (isNonD x)]; exact k _ _ _ _ f (resBl _)⟩
  | bl b => exact .inr ⟨b, ry, by rw [isBlV b rx, ← neg1 (isBlD b x)]; exact k _ _ _ _ f (resBl _)⟩
  | _ => exact f.elim
end
end PL
namespace PL
open PySem PySem.Spec PyProof.Rows L2

/-! ### subscripts -/
theorem RA.atI {K : PySem.W.Frag} {H : Hp} {ds : List D} {vs : List V} (h : RA K H ds vs) {i : Int} {d : D} (e : L2.atI ds i = some d) : ∃ v, L2.atI vs i = some v ∧ R K H d v := by
  unfold L2.atI at e ⊢
  rw [← h.len]
  cases e1 : ixN ds.length i with
  | none => rw [e1] at e; cases e
  | some j =>
    rw [e1] at e
    exact h.get e
def keyOf (d : D) : Option DK := keyD d
/-- what stands under a key -/
def dget : List DK → List D → DK → Option D
  | k :: ks, v :: vs, x => if k = x then some v else dget ks vs x
  | _, _, _ => none
def dput : List DK → List D → DK → D → List D
  | k :: ks, v :: vs, x, d => if k = x then d :: vs else v :: dput ks vs x d
  | _, vs, _, _ => vs
theorem dget_V {K : PySem.W.Frag} {H : Hp} : ∀ {ks : List DK} {vs : List D} {kvs : List (Key × V)} {k : DK} {d : D}, kvs.map (·.1) = ks.map kOf → RA K H vs (kvs.map (·.2)) → dget ks vs k = some d → ∃ v, valV kvs (kOf k) = some v ∧ R K H d v
  | [], _, _, _, _, _, _, h => by simp [dget] at h
  | _ :: _, [], _, _, _, _, _, h => by simp [dget] at h
  | k0 :: ks, v0 :: vs, [], k, d, e, r, h => by simp at e
  | k0 :: ks, v0 :: vs, p :: kvs, k, d, e, r, h => by
    rw [List.map_cons, List.map_cons] at e
    injection e with e1 e2
    obtain ⟨v, r', ev, r1, r2⟩ := r
    rw [List.map_cons] at ev
    injection ev with ev1 ev2
    subst ev2
    unfold dget at h
    by_cases hk : k0 = k
    · rw [if_pos hk] at h
      cases h
      exact ⟨p.2, valV_pos (by rw [e1, hk]), by rw [ev1]; exact r1⟩
    · rw [if_neg hk] at h
      obtain ⟨w, h1, h2⟩ := dget_V e2 r2 h
      refine ⟨w, ?_, h2⟩
      unfold valV
      rw [List.find?_cons, decide_eq_false (by rw [e1]; exact fun z => hk (kOf_inj z))]
      exact h1
section
variable {X : Cx}
def pIx (x y : D) (K : Rv → Prop) : Prop := match x with
  | .lst ds => ∃ i d, y = .int i ∧ L2.atI ds i = some d ∧ K (.sh d)
  | .lck ds => ∃ i d, y = .int i ∧ L2.atI ds i = some d ∧ K (.sh d)
  | .tup ds => ∃ i d, y = .int i ∧ L2.atI ds i = some d ∧ K (.sh d)
  | .str l => ∃ i c, y = .int i ∧ l.length ≤ sizeLine ∧ L2.atI l i = some c ∧ K (.sh (.str [c]))
  | .dct ks vs => ∃ k d, keyD y = some k ∧ dget ks vs k = some d ∧ K (.sh d)
  | _ => False
theorem ix_dict (hu : X.A.units + 1 < cLine) : IxR X (fun x y H Q => ∃ a v, x = .ref a ∧ DGet H a y (some v) ∧ Q v H) := by
  intro value slice pins s σ H x y v u Q I rx ry h hs
  obtain ⟨a, z, rfl, g, q⟩ := h
  cases rx
  exact tail_any (dict_typeIs I g) PySem.F.slot_dict_getitem.lookup (d_getItem hu I g ry fun w' s3 I3 rw' => ⟨z, H, I3, rw', q⟩) hs
theorem x_ix (hu : X.A.units + 1 < cLine) : IxP X pIx := by
  refine ⟨_, ix_seq.or (ix_dict hu), fun P H x y v u Kf Q dom rx ry f k => ?_⟩
  cases x with
  | lst ds =>
    obtain ⟨i, d, rfl, e, f⟩ := f
    obtain ⟨a, xs, rfl, h1, h2⟩ := rx
    obtain ⟨w, e2, r⟩ := h2.atI e
    exact .inl (.inl ⟨a, xs, i, w, rfl, ry, SqL.of h1, e2, k _ _ _ _ f (resSh r)⟩)
  | lck ds =>
    obtain ⟨i, d, rfl, e, f⟩ := f
    obtain ⟨a, xs, rfl, h1, h2⟩ := rx.lck' (mask_same H P)
    obtain ⟨w, e2, r⟩ := h2.atI e
    exact .inl (.inl ⟨a, xs, i, w, rfl, ry, h1, e2, k _ _ _ _ f (resSh r)⟩)
  | tup ds =>
    obtain ⟨i, d, rfl, e, f⟩ := f
    obtain ⟨a, xs, rfl, h1, h2⟩ := rx.tup' (mask_same H P)
    obtain ⟨w, e2, r⟩ := h2.atI e
    exact .inl (.inr (.inl ⟨a, xs, i, w, rfl, ry, h1, e2, k _ _ _ _ f (resSh r)⟩))
  | str l =>
    obtain ⟨i, c, rfl, hz, e, f⟩ := f
    exact .inl (.inr (.inr ⟨toStr l, i, c, rx, ry, by rw [toStr_len]; exact hz, by rw [toStr_list]; exact e, k _ _ _ _ f (resStr [c])⟩))
  | dct ks vs =>
    obtain ⟨kk, d, hk, e, f⟩ := f
    obtain ⟨a, kvs, rfl, h1, h2, h3⟩ := rx
    obtain ⟨w, e2, r⟩ := dget_V h2 h3 e
    have ey := keyD_V hk ry
    refine .inr ⟨a, w, rfl, ?_, k _ _ _ _ f (resSh r)⟩
    rw [ey, ← e2]
    exact DGet.k h1
  | _ => exact f.elim
end

/-! ### slices -/
abbrev TOp := Ev → (Option Int → Ev → Prop) → Prop
def liftO (K : PySem.W.Frag) (t : TOp) : TO := fun σ H Q => ∃ P env K', Sim K P env σ H ∧ t env K' ∧ ∀ o env' P' H', K' o env' → Aft K P env σ H P' env' H' → Q o H'
def O (X : Cx) (e : Option Expr) (t : TOp) : Prop := PO X e (liftO X.K t)
theorem poImp {X : Cx} {e : Option Expr} {t t' : TO} (h : PO X e t) (i : ∀ σ H Q, t' σ H Q → t σ H Q) : PO X e t' := ⟨fun pins s σ H Q I q => h.run pins s σ H Q I (i σ H Q q)⟩
def cutL {α : Type} (xs : List α) (lo hi : Option Int) : List α := (xs.drop (HT.sIx xs.length 0 lo)).take (HT.sIx xs.length xs.length hi - HT.sIx xs.length 0 lo)
theorem RA.cut {K : PySem.W.Frag} {H : Hp} {ds : List D} {vs : List V} (h : RA K H ds vs) (lo hi : Option Int) : RA K H (cutL ds lo hi) (cutV vs lo hi) := by
  unfold cutL cutV
  rw [h.len]
  exact (h.drop _).take _
section
variable {X : Cx} {e : Expr} {te : TEp} {lo hi : Option Expr} {tl th : TOp} {p2 pos : Pos}
def oNo : TOp := fun env K => K none env
def oSome (te : TEp) : TOp := fun env K => te env fun r e => rd e r fun d => match d with
  | .int i => K (some i) e
  | _ => False
theorem o_no : O X none oNo := poImp po_none fun σ H Q ⟨P, env, K', S, t, k⟩ => k none env P H t (Aft.refl S)
theorem o_some (he : E X e te) : O X (some e) (oSome te) := by
  refine poImp (po_some he) fun σ H Q ⟨P, env, K', S, t, k⟩ => ?_
  refine ⟨P, env, _, S, t, fun r e v P1 H1 t1 A1 R1 => ?_⟩
  obtain ⟨d, t1, X1⟩ := rd_ok A1.sim R1.1 t1
  cases d with
  | int i => exact ⟨i, X1, k _ e P1 H1 t1 A1⟩
  | _ => exact t1.elim
def pSl (x : D) (lo hi : Option Int) (K : Rv → Prop) : Prop := match x with
  | .lst ds => K (.own (.lst (cutL ds lo hi)))
  | .lck ds => K (.own (.lst (cutL ds lo hi)))
  | .tup ds => ¬ (HT.sIx ds.length 0 lo = 0 ∧ HT.sIx ds.length ds.length hi = ds.length) ∧ K (.sh (.tup (cutL ds lo hi)))
  | .str l => l.length ≤ sizeLine ∧ K (.sh (.str (cutL l lo hi)))
  | _ => False
def pSlc (te : TEp) (tl th : TOp) : TEp := fun env K => te env fun r1 e1 => settle r1 fun r1 => tl e1 fun a e2 => th e2 fun b e3 => rd e3 r1 fun x => pSl x a b fun r => K r e3
theorem cutS_toStr (l : List Nat) (lo hi : Option Int) : cutS (toStr l) lo hi = toStr (cutL l lo hi) := by
  unfold cutS cutL
  rw [toStr_len, toStr_list]
  rfl
theorem e_slice (he : E X e te) (hl : O X lo tl) (hh : O X hi th) : E X (.Subscript e (.Slice lo hi none p2) pos) (pSlc te tl th) := by
  refine peImp (pe_slice (sl_list.or (sl_tup.or sl_str)) he hl hh) fun σ H Q ⟨P, env, K', S, t, k⟩ => ?_
  refine ⟨P, env, _, S, t, fun r1 e1 v1 P1 H1 t1 A1 R1 => ?_⟩
  obtain ⟨r1', P1', t1, n1, A1, R1⟩ := settle_ok A1 R1 t1
  refine ⟨P1', e1, _, A1.sim, t1, fun a e2 P2 H2 t2 A2 => ?_⟩
  refine ⟨P2, e2, _, A2.sim, t2, fun b e3 P3 H3 t3 A3 => ?_⟩
  have A13 := A2.trans A3
  obtain ⟨x, t3, X1⟩ := rd_ok A3.sim (R1.aft A1.sim A13 n1) t3
  have A4 := A1.trans A13
  have dom := A4.sim.dom
  have fin : ∀ q w P' H', K' q e3 → NewRes X.K P3 H3 P' H' q w → Q w H' := fun q w P' H' kq n => k q e3 w P' H' kq (A4.trans (n.aft A4.sim)) (Res.aft A4 (n.res A4.sim))
  cases x with
  | lst ds =>
    obtain ⟨p, xs, rfl, h1, h2⟩ := X1
    exact .inl ⟨p, xs, rfl, SqL.of h1, fun z hz => fin _ _ _ _ t3 (newLst dom hz (h2.cut a b))⟩
  | lck ds =>
    obtain ⟨p, xs, rfl, h1, h2⟩ := X1.lck' (mask_same _ _)
    exact .inl ⟨p, xs, rfl, h1, fun z hz => fin _ _ _ _ t3 (newLst dom hz (h2.cut a b))⟩
  | tup ds =>
    obtain ⟨p, xs, rfl, h1, h2⟩ := X1.tup' (mask_same _ _)
    exact .inr (.inl ⟨p, xs, rfl, h1, by rw [← h2.len]; exact t3.1, fun z hz => fin _ _ _ _ t3.2 (newTup dom hz (h2.cut a b))⟩)
  | str l =>
    refine .inr (.inr ⟨toStr l, X1, by rw [toStr_len]; exact t3.1, ?_⟩)
    rw [cutS_toStr]
    exact fin _ _ _ _ t3.2 (resStr _)
  | _ => exact t3.elim
/-- e[::-1] -/
def pRev (x : D) (K : Rv → Prop) : Prop := match x with
  | .lst ds => K (.own (.lst ds.reverse))
  | .lck ds => K (.own (.lst ds.reverse))
  | .str l => l.length ≤ sizeLine ∧ K (.sh (.str l.reverse))
  | _ => False
theorem sidx_rev (n : Nat) : Builtin.Str.strSliceIndices none none (-1) n = (List.range n).reverse := by
  have h1 : ¬ ((-1 : Int) > 0) := by decide
  unfold Builtin.Str.strSliceIndices
  simp only [h1, if_false]
  rw [PySem.W.krv_sliceRange, PySem.W.krv_range]
theorem rev_all (l : List Nat) : ((List.range l.length).reverse.filterMap ((toStr l).cps[·]?)).toArray = l.reverse.toArray := by
  rw [List.filterMap_reverse]
  have := PySem.W.krv_all (toStr l).cps
  have e : (toStr l).cps.size = l.length := toStr_len l
  rw [e] at this
  rw [this, toStr_list]
theorem e_rev {k : Nat} {q1 q2 q3 : Pos} (he : E X e te) : E X (.Subscript e (.Slice none none (some (.UnaryOp .USub (.Constant (.int 1) k q1) q2)) q3) pos) (pOp1 pRev te) := by
  refine ⟨fun pins s σ H Q I h => ?_⟩
  obtain ⟨P, env, K', S, t, kk⟩ := h
  refine Subscript_ (thn (he.run pins s σ H (fun x H1 => ∃ d e2 P2, pRev d (fun r => K' r e2) ∧ Aft X.K P env σ H P2 e2 H1 ∧ Rt X.K (mask H1 P2) H1 d x) I ⟨P, env, _, S, t, fun r e v P1 H1 t1 A1 R1 => ?_⟩) fun v s1 ⟨x, H1, I1, r1, d, e2, P2, q, A2, X2⟩ => ?_)
  · obtain ⟨d, t1, X1⟩ := rd_ok A1.sim R1.1 t1
    exact ⟨d, e, P1, t1, A1, X1⟩
  have fin : ∀ q w P' H', K' q e2 → NewRes X.K P2 H1 P' H' q w → Q w H' := fun q w P' H' kq n => kk q e2 w P' H' kq (A2.trans (n.aft A2.sim)) (Res.aft A2 (n.res A2.sim))
  have hst : PO X (some (.UnaryOp .USub (.Constant (.int 1) k q1) q2)) (tPart (tUn (rU fun i => .int (-i)) (tC (.int 1)))) := po_some (pe_un un_neg pe_int)
  refine wpAny_Slice (thn (po_none.run pins s1 σ H1 (fun o H2 => o = none ∧ H2 = H1) I1 ⟨rfl, rfl⟩) fun vl s2 ⟨l, H2, I2, pl, el, ee⟩ => ?_)
  subst el ee
  refine thn (po_none.run pins s2 σ H2 (fun o H3 => o = none ∧ H3 = H2) I2 ⟨rfl, rfl⟩) fun vu s3 ⟨u, H3, I3, pu, eu, e3⟩ => ?_
  subst eu e3
  refine thn (hst.run pins s3 σ H3 (fun o H4 => o = some (-1) ∧ H4 = H3) I3 ⟨1, rfl, -1, rfl, rfl, rfl⟩) fun vs s4 ⟨o, H4, I4, ps, eo, e4⟩ => ?_
  subst eo e4
  have I5 : Inv X pins σ H4 { s4 with heap := s4.heap.push { cls := .type "slice", data := .fields #[vl, vu, vs] } } := I4.kept (t' := s4.toks) fun b ob q => Heap.get?_push_of_some _ q
  show wpAny (model X.prog X.w) X.A (subscriptTail e (.Slice none none (some (.UnaryOp .USub (.Constant (.int 1) k q1) q2)) q3) v (.ref s4.heap.objs.size)) (EP X pins σ Q) X.xe { s4 with heap := s4.heap.push { cls := .type "slice", data := .fields #[vl, vu, vs] } }
  have goL : ∀ a xs ds, x = V.ref a → SqL X.K H4 a xs → RA X.K (mask H4 P2) ds xs → K' (.own (.lst ds.reverse)) e2 → wpAny (model X.prog X.w) X.A (subscriptTail e (.Slice none none (some (.UnaryOp .USub (.Constant (.int 1) k q1) q2)) q3) v (.ref s4.heap.objs.size)) (EP X pins σ Q) X.xe { s4 with heap := s4.heap.push { cls := .type "slice", data := .fields #[vl, vu, vs] } } := fun a xs ds ex h1 h2 q => by
    subst ex
    cases r1
    obtain ⟨its, r, ht, hz⟩ := I5.list h1
    have hlen := r.length
    refine tail_any (ops := [.ref a, .ref s4.heap.objs.size]) ht.isList.typeIs (PySem.slot_list_getitem.lookup) ?_ (by with_unfolding_all rfl)
    refine wpAny_getItem_list_slice ht.isList (Heap.IsSliceOf.new _ vl vu vs) pl pu ps (by decide) ?_ (by rw [List.size_toArray]; omega)
    rw [PySem.W.krv_pick]
    have n0 := I5.hok.fresh (Nat.le_refl _)
    refine ⟨.ref _, _, I5.laid (t' := s4.toks) (o := .lst xs.reverse) (fun b ob q => Heap.get?_push_of_some _ q) (Nat.le_refl _) ?_, rfl, fin _ _ _ _ q (newLst A2.sim.dom n0 h2.reverse)⟩
    exact ⟨by rw [List.length_reverse]; exact hz, _, 0, r.reverse, Heap.get?_push_size _ rfl⟩
  cases d with
  | lst ds =>
    obtain ⟨a, xs, ex, h1, h2⟩ := X2
    exact goL a xs ds ex (SqL.of h1) h2 q
  | lck ds =>
    obtain ⟨a, xs, ex, h1, h2⟩ := X2.lck' (mask_same _ _)
    exact goL a xs ds ex h1 h2 q
  | str l =>
    cases (show x = V.str (toStr l) from X2)
    obtain ⟨t', rfl⟩ := r1
    obtain ⟨lq, rfl, el⟩ := IsPart.raw pl
    obtain ⟨uq, rfl, eu⟩ := IsPart.raw pu
    obtain ⟨sq, rfl, es⟩ := IsPart.raw ps
    have elq : lq = none := by cases lq with
      | none => rfl
      | some _ => cases el
    have euq : uq = none := by cases uq with
      | none => rfl
      | some _ => cases eu
    subst elq; subst euq
    refine tail_any (ops := [.ref s4.heap.objs.size, .str (toStr l) t']) (typeIs_str _ _ _) F.slot_str_getitem.lookup ?_ (by with_unfolding_all rfl)
    refine wpAny_getItem_str_slice (l := none) (u := none) (st := sq) ⟨_, Heap.get?_push_size _ rfl, rfl, rfl⟩ (by rw [es]; rfl) ?_
    unfold sliceMade slicePicked
    rw [es]
    show Made.post (if ((-1 : Int) == 1 && (Builtin.Str.strSliceIndices none none (-1) (toStr l).length).length == (toStr l).length) = true then Made.val (.str (toStr l) t')
      else Made.str ⟨((Builtin.Str.strSliceIndices none none (-1) (toStr l).length).filterMap ((toStr l).cps[·]?)).toArray⟩) (EP X pins σ Q) _
    rw [sidx_rev, toStr_len, rev_all]
    refine ⟨?_, .str (toStr l.reverse), H4, I5.tok _, ⟨_, rfl⟩, fin _ _ _ _ q.2 (resStr _)⟩
    show l.reverse.toArray.size ≤ _
    rw [List.size_toArray, List.length_reverse]
    exact q.1
  | _ => exact q.elim
end
end PL
namespace PL
open PySem PySem.Spec PyProof.Rows L2 TL

/-! ### built-ins, by data -/
section
variable {X : Cx}
theorem RtA.one {K : PySem.W.Frag} {Hs H : Hp} {d : D} {vs : List V} (h : RtA K Hs H [d] vs) : ∃ v, vs = [v] ∧ Rt K Hs H d v := by
  obtain ⟨v, r, e, h1, h2⟩ := h
  exact ⟨v, by rw [e, show r = [] from h2], h1⟩
theorem RtA.two {K : PySem.W.Frag} {Hs H : Hp} {d e : D} {vs : List V} (h : RtA K Hs H [d, e] vs) : ∃ v u, vs = [v, u] ∧ Rt K Hs H d v ∧ Rt K Hs H e u := by
  obtain ⟨v, r, e1, h1, h2⟩ := h
  obtain ⟨u, e2, h3⟩ := h2.one
  exact ⟨v, u, by rw [e1, e2], h1, h3⟩
def bLen (ds : List D) (K : Rv → Prop) : Prop := match ds with
  | [.lst xs] => K (.sh (.int xs.length))
  | [.lck xs] => K (.sh (.int xs.length))
  | [.tup xs] => K (.sh (.int xs.length))
  | [.str l] => l.length ≤ sizeLine ∧ K (.sh (.int l.length))
  | [.dct ks _] => K (.sh (.int ks.length))
  | _ => False
theorem b_len : CallP X (.builtin "len") bLen := by
  refine ⟨_, call_len.or call_lenD, fun P H ds vs Kf Q dom rt f k => ?_⟩
  unfold bLen at f
  split at f
  · obtain ⟨v, rfl, a, xs, rfl, h1, h2⟩ := rt.one
    exact .inl ⟨_, xs.length, rfl, .inl ⟨xs, SqL.of h1, rfl⟩, by rw [← h2.len]; exact k _ _ _ _ f (resInt _)⟩
  · obtain ⟨v, rfl, h⟩ := rt.one
    obtain ⟨a, xs, rfl, h1, h2⟩ := h.lck' (mask_same H P)
    exact .inl ⟨_, xs.length, rfl, .inl ⟨xs, h1, rfl⟩, by rw [← h2.len]; exact k _ _ _ _ f (resInt _)⟩
  · obtain ⟨v, rfl, h⟩ := rt.one
    obtain ⟨a, xs, rfl, h1, h2⟩ := h.tup' (mask_same H P)
    exact .inl ⟨_, xs.length, rfl, .inr ⟨xs, h1, rfl⟩, by rw [← h2.len]; exact k _ _ _ _ f (resInt _)⟩
  · obtain ⟨v, rfl, h⟩ := rt.one
    cases (show v = _ from h)
    exact .inl ⟨_, _, rfl, ⟨by rw [toStr_len]; exact f.1, rfl⟩, by rw [toStr_len]; exact k _ _ _ _ f.2 (resInt _)⟩
  · obtain ⟨v, rfl, a, kvs, rfl, h1, h2, h3⟩ := rt.one
    rename_i ks0 vs0
    have e : kvs.length = ks0.length := by simpa using congrArg List.length h2
    exact .inr ⟨a, kvs, rfl, h1, by rw [e]; exact k _ _ _ _ f (resInt _)⟩
  · exact f.elim
def bInt (ds : List D) (K : Rv → Prop) : Prop := match ds with
  | [.int i] => K (.sh (.int i))
  | [.bl b] => K (.sh (.int (if b then 1 else 0)))
  | [.str l] => (∃ n, PySem.intText? (toStr l) = some n ∧ l.length ≤ 640 ∧ K (.sh (.int n)))
  | _ => False
theorem b_int : CallP X (.type "int") bInt := by
  refine ⟨_, call_int1.or call_int_str, fun P H ds vs Kf Q dom rt f k => ?_⟩
  unfold bInt at f
  split at f
  · obtain ⟨v, rfl, h⟩ := rt.one
    cases (show v = _ from h)
    exact .inl (.inl ⟨_, rfl, k _ _ _ _ f (resInt _)⟩)
  · obtain ⟨v, rfl, h⟩ := rt.one
    cases (show v = _ from h)
    exact .inl (.inr ⟨_, rfl, k _ _ _ _ f (resInt _)⟩)
  · obtain ⟨v, rfl, h⟩ := rt.one
    cases (show v = _ from h)
    obtain ⟨n, e, hz, f⟩ := f
    exact .inr ⟨_, n, rfl, e, by rw [toStr_len]; exact hz, k _ _ _ _ f (resInt _)⟩
  · exact f.elim
/-- the signs of a number's text -/
def numT (i : Int) : List Nat := tl (Str.ofString (toString i))
def bStr (ds : List D) (K : Rv → Prop) : Prop := match ds with
  | [.int i] => i.natAbs.log2 < 1920 ∧ K (.sh (.str (numT i)))
  | _ => False
theorem b_str : CallP X (.type "str") bStr := by
  refine ⟨_, call_str_int, fun P H ds vs Kf Q dom rt f k => ?_⟩
  unfold bStr at f
  split at f
  · rename_i i
    obtain ⟨v, rfl, h⟩ := rt.one
    cases (show v = _ from h)
    refine ⟨i, rfl, f.1, ?_⟩
    have e : (toString i : Str) = toStr (numT i) := (toStr_self _).symm
    rw [e]
    exact k _ _ _ _ f.2 (resStr _)
  · exact f.elim
def bAbs (ds : List D) (K : Rv → Prop) : Prop := match ds with
  | [.int i] => K (.sh (.int (if i < 0 then -i else i)))
  | _ => False
theorem b_abs : CallP X (.builtin "abs") bAbs := by
  refine ⟨_, call_abs, fun P H ds vs Kf Q dom rt f k => ?_⟩
  unfold bAbs at f
  split at f
  · obtain ⟨v, rfl, h⟩ := rt.one
    cases (show v = _ from h)
    exact ⟨_, rfl, k _ _ _ _ f (resInt _)⟩
  · exact f.elim
def bDivmod (ds : List D) (K : Rv → Prop) : Prop := match ds with
  | [.int i, .int j] => CDiv i j ∧ K (.sh (.tup [.int (i / j), .int (i % j)]))
  | _ => False
theorem b_divmod : CallP X (.builtin "divmod") bDivmod := by
  refine ⟨_, call_divmod, fun P H ds vs Kf Q dom rt f k => ?_⟩
  unfold bDivmod at f
  split at f
  · rename_i i j
    obtain ⟨v, u, rfl, h1, h2⟩ := rt.two
    cases (show v = _ from h1); cases (show u = _ from h2)
    exact ⟨_, _, rfl, f.1, fun p hp => k _ _ _ _ f.2 (newTup dom hp (ds := [.int (i / j), .int (i % j)]) ⟨_, _, rfl, rfl, _, _, rfl, rfl, rfl⟩)⟩
  · exact f.elim
def isInts (ds : List D) (k : List Int → Prop) : Prop := ∃ ns : List Int, ds = ns.map D.int ∧ k ns
theorem ints_V {K : PySem.W.Frag} {H Hs : Hp} {ds : List D} {d : D} {v : V} (hd : d = .lst ds ∨ d = .lck ds) (sm : Same Hs H) (r : Rt K Hs H d v) {k : List Int → Prop} (h : isInts ds k) : ∃ a ns, v = .ref a ∧ SqL K H a (ns.map V.int) ∧ ds = ns.map D.int ∧ k ns := by
  obtain ⟨ns, rfl, q⟩ := h
  rcases hd with rfl | rfl
  · obtain ⟨a, xs, rfl, h1, h2⟩ := r
    rw [RA.ints.mp h2] at h1
    exact ⟨a, ns, rfl, SqL.of h1, rfl, q⟩
  · obtain ⟨a, xs, rfl, h1, h2⟩ := r.lck' sm
    rw [RA.ints.mp h2] at h1
    exact ⟨a, ns, rfl, h1, rfl, q⟩
def bSum (ds : List D) (K : Rv → Prop) : Prop := match ds with
  | [.lst xs] => isInts xs fun ns => K (.sh (.int ns.sum))
  | _ => False
theorem b_sum (hc : X.calm = true) : CallP X (.builtin "sum") bSum := by
  refine ⟨_, cr_sum hc, fun P H ds vs Kf Q dom rt f k => ?_⟩
  unfold bSum at f
  split at f
  · obtain ⟨v, rfl, h⟩ := rt.one
    obtain ⟨a, ns, rfl, h1, _, q⟩ := ints_V (.inl rfl) (mask_same H P) h f
    exact ⟨a, ns, rfl, h1, k _ _ _ _ q (resInt _)⟩
  · exact f.elim
/-- the greatest (least) of ints -/
def IsMax (ns : List Int) (m : Int) : Prop := m ∈ ns ∧ ∀ y ∈ ns, y ≤ m
def IsMin (ns : List Int) (m : Int) : Prop := m ∈ ns ∧ ∀ y ∈ ns, m ≤ y
def bMax (ds : List D) (K : Rv → Prop) : Prop := match ds with
  | [.lst xs] => isInts xs fun ns => 0 < ns.length ∧ ∀ m, IsMax ns m → K (.sh (.int m))
  | [.int i, .int j] => K (.sh (.int (max i j)))
  | _ => False
theorem max_if (i j : Int) : (if j > i then j else i) = max i j := by omega
theorem min_if (i j : Int) : (if j < i then j else i) = min i j := by omega
theorem b_max (hc : X.calm = true) : CallP X (.builtin "max") bMax := by
  refine ⟨_, (cr_max hc).or (call_max2 hc), fun P H ds vs Kf Q dom rt f k => ?_⟩
  unfold bMax at f
  split at f
  · obtain ⟨v, rfl, h⟩ := rt.one
    obtain ⟨a, ns, rfl, h1, _, h0, q⟩ := ints_V (.inl rfl) (mask_same H P) h f
    exact .inl ⟨a, ns, rfl, h1, h0, fun m h1 h2 => k _ _ _ _ (q m ⟨h1, h2⟩) (resInt _)⟩
  · obtain ⟨v, u, rfl, h1, h2⟩ := rt.two
    cases (show v = _ from h1); cases (show u = _ from h2)
    exact .inr ⟨_, _, rfl, by rw [max_if]; exact k _ _ _ _ f (resInt _)⟩
  · exact f.elim
def bMin (ds : List D) (K : Rv → Prop) : Prop := match ds with
  | [.lst xs] => isInts xs fun ns => 0 < ns.length ∧ ∀ m, IsMin ns m → K (.sh (.int m))
  | [.int i, .int j] => K (.sh (.int (min i j)))
  | _ => False
theorem b_min (hc : X.calm = true) : CallP X (.builtin "min") bMin := by
  refine ⟨_, (cr_min hc).or (call_min2 hc), fun P H ds vs Kf Q dom rt f k => ?_⟩
  unfold bMin at f
  split at f
  · obtain ⟨v, rfl, h⟩ := rt.one
    obtain ⟨a, ns, rfl, h1, _, h0, q⟩ := ints_V (.inl rfl) (mask_same H P) h f
    exact .inl ⟨a, ns, rfl, h1, h0, fun m h1 h2 => k _ _ _ _ (q m ⟨h1, h2⟩) (resInt _)⟩
  · obtain ⟨v, u, rfl, h1, h2⟩ := rt.two
    cases (show v = _ from h1); cases (show u = _ from h2)
    exact .inr ⟨_, _, rfl, by rw [min_if]; exact k _ _ _ _ f (resInt _)⟩
  · exact f.elim
def isBls (ds : List D) (k : List Bool → Prop) : Prop := ∃ bs : List Bool, ds = bs.map D.bl ∧ k bs
def bAny (ds : List D) (K : Rv → Prop) : Prop := match ds with
  | [.lst xs] => isBls xs fun bs => K (.sh (.bl (bs.any id)))
  | _ => False
theorem b_any (hc : X.calm = true) : CallP X (.builtin "any") bAny := by
  refine ⟨_, cr_any hc, fun P H ds vs Kf Q dom rt f k => ?_⟩
  unfold bAny at f
  split at f
  · obtain ⟨bs, rfl, f⟩ := f
    obtain ⟨v, rfl, a, xs, rfl, h1, h2⟩ := rt.one
    rw [RA.bls.mp h2] at h1
    exact ⟨a, bs, rfl, SqL.of h1, k _ _ _ _ f (resBl _)⟩
  · exact f.elim
def bAll (ds : List D) (K : Rv → Prop) : Prop := match ds with
  | [.lst xs] => isBls xs fun bs => K (.sh (.bl (bs.all id)))
  | _ => False
theorem b_all (hc : X.calm = true) : CallP X (.builtin "all") bAll := by
  refine ⟨_, cr_all hc, fun P H ds vs Kf Q dom rt f k => ?_⟩
  unfold bAll at f
  split at f
  · obtain ⟨bs, rfl, f⟩ := f
    obtain ⟨v, rfl, a, xs, rfl, h1, h2⟩ := rt.one
    rw [RA.bls.mp h2] at h1
    exact ⟨a, bs, rfl, SqL.of h1, k _ _ _ _ f (resBl _)⟩
  · exact f.elim
def bList (ds : List D) (K : Rv → Prop) : Prop := match ds with
  | [.lst xs] => K (.own (.lst xs))
  | [.lck xs] => K (.own (.lst xs))
  | [.tup xs] => K (.own (.lst xs))
  | [.str l] => l.length ≤ sizeLine ∧ K (.own (.lst (l.map fun c => .str [c])))
  | _ => False
theorem call_list_txt (hc : X.calm = true) : CallR X (.type "list") (fun xs H Q => ∃ l : List Nat, xs = [.str (toStr l)] ∧ l.length ≤ sizeLine ∧ ∀ p, H p = none → Q (.ref p) (upd H p (.lst (l.map fun c => .str (toStr [c]))))) := by
  intro pins s σ H xs us Q I r h
  obtain ⟨l, rfl, hz, q⟩ := h
  obtain ⟨u, rfl, t, rfl⟩ := vals1 r
  have hsz : (toStr l).cps.size = l.length := toStr_len l
  refine call_list_str (I.ok.hd hc) (toStr l) t (hn := by rw [hsz]; exact hz) fun h' tk acc c' hk e hi => ?_
  have hv : Vals (l.map fun c => V.str (toStr [c])) acc.toList := by
    have e1 : acc.toList.length = l.length := by rw [Array.length_toList, hi.1, hsz]
    have e2 : (l.map fun c => V.str (toStr [c])) = (List.range acc.toList.length).map fun i => V.str (toStr [l.getD i 0]) := by
      rw [e1]
      refine List.ext_getElem (by simp) fun i h1 h2 => ?_
      have h1' : i < l.length := by simpa using h1
      simp [h1']
    rw [e2]
    refine vals_of_get acc.toList _ fun j u hj => ?_
    obtain ⟨c, t', hc', rfl⟩ := hi.2 j u (by rw [← hj, Array.getElem?_toList])
    have e3 : l[j]? = some c := by simpa [toStr] using hc'
    have e4 : l.getD j 0 = c := by rw [List.getD_eq_getElem?_getD, e3]; rfl
    exact ⟨t', by rw [e4]; rfl⟩
  refine ⟨.ref s.heap.objs.size, _, I.laid (o := .lst (l.map fun c => V.str (toStr [c]))) hk (Nat.le_refl _) ⟨by simpa using hz, acc.toList, c', hv, by rw [Array.toArray_toList]; exact e⟩, rfl, q _ (I.hok.fresh (Nat.le_refl _))⟩
theorem RA.signs {K : PySem.W.Frag} {H : Hp} : ∀ l : List Nat, RA K H (l.map fun c => .str [c]) (l.map fun c => V.str (toStr [c]))
  | [] => rfl
  | c :: l => ⟨_, _, rfl, rfl, RA.signs l⟩
theorem b_list (hc : X.calm = true) : CallP X (.type "list") bList := by
  refine ⟨_, call_list_of.or (call_list_txt hc), fun P H ds vs Kf Q dom rt f k => ?_⟩
  unfold bList at f
  split at f
  · obtain ⟨v, rfl, a, xs, rfl, h1, h2⟩ := rt.one
    exact .inl ⟨a, xs, rfl, .inl (SqL.of h1), fun p hp => k _ _ _ _ f (newLst dom hp h2)⟩
  · obtain ⟨v, rfl, h⟩ := rt.one
    obtain ⟨a, xs, rfl, h1, h2⟩ := h.lck' (mask_same H P)
    exact .inl ⟨a, xs, rfl, .inl h1, fun p hp => k _ _ _ _ f (newLst dom hp h2)⟩
  · obtain ⟨v, rfl, h⟩ := rt.one
    obtain ⟨a, xs, rfl, h1, h2⟩ := h.tup' (mask_same H P)
    exact .inl ⟨a, xs, rfl, .inr h1, fun p hp => k _ _ _ _ f (newLst dom hp h2)⟩
  · obtain ⟨v, rfl, h⟩ := rt.one
    cases (show v = _ from h)
    exact .inr ⟨_, rfl, f.1, fun p hp => k _ _ _ _ f.2 (newLst dom hp (RA.signs _))⟩
  · exact f.elim
def bTuple (ds : List D) (K : Rv → Prop) : Prop := match ds with
  | [.lst xs] => K (.sh (.tup xs))
  | [.lck xs] => K (.sh (.tup xs))
  | [.tup xs] => K (.sh (.tup xs))
  | _ => False
theorem b_tuple : CallP X (.type "tuple") bTuple := by
  refine ⟨_, call_tuple_of, fun P H ds vs Kf Q dom rt f k => ?_⟩
  unfold bTuple at f
  split at f
  · obtain ⟨v, rfl, a, xs, rfl, h1, h2⟩ := rt.one
    exact ⟨a, xs, rfl, .inl ⟨SqL.of h1, fun p hp => k _ _ _ _ f (newTup dom hp h2)⟩⟩
  · obtain ⟨v, rfl, h⟩ := rt.one
    obtain ⟨a, xs, rfl, h1, h2⟩ := h.lck' (mask_same H P)
    exact ⟨a, xs, rfl, .inl ⟨h1, fun p hp => k _ _ _ _ f (newTup dom hp h2)⟩⟩
  · obtain ⟨v, rfl, h⟩ := rt.one
    obtain ⟨a, xs, rfl, h1, h2⟩ := h
    exact ⟨a, xs, rfl, .inr ⟨Same.seqT (mask_same H P) h1, k _ _ _ _ f (resSh ⟨a, xs, rfl, h1, h2⟩)⟩⟩
  · exact f.elim

/-! ### isinstance -/
def typD : D → String
  | .non => "NoneType"
  | .bl _ => "bool"
  | .int _ => "int"
  | .str _ => "str"
  | .lst _ => "list"
  | .lck _ => "list"
  | .tup _ => "tuple"
  | .dct _ _ => "dict"
def isT (T : String) (d : D) : Bool := match d with
  | .non => false
  | .bl _ => T == "bool" || T == "int"
  | .int _ => T == "int"
  | .str _ => T == "str"
  | .lst _ => T == "list"
  | .lck _ => T == "list"
  | .tup _ => T == "tuple"
  | .dct _ _ => T == "dict"
def TKnown (T : String) : Prop := T = "bool" ∨ T = "int" ∨ T = "str" ∨ T = "list" ∨ T = "tuple" ∨ T = "dict"
theorem kit_isT {T : String} (h : TKnown T) (d : D) : kitB (typD d) T = some (isT T d) := by
  rcases h with rfl | rfl | rfl | rfl | rfl | rfl <;> cases d <;> (show kitB _ _ = some _) <;> first | rfl | decide +kernel
theorem ty_of {K : PySem.W.Frag} {Hs H : Hp} (sm : Same Hs H) : ∀ {d : D} {v : V}, Rt K Hs H d v → TyX K H v (.type (typD d))
  | .non, v, h => by rw [show v = _ from h]; exact .base .non
  | .bl b, v, h => by rw [show v = _ from h]; exact .base (.bl b)
  | .int b, v, h => by rw [show v = _ from h]; exact .base (.int b)
  | .str b, v, h => by rw [show v = _ from h]; exact .base (.str _)
  | .lst ds, v, h => by obtain ⟨a, xs, rfl, h1, _⟩ := h; exact .base (.lst h1)
  | .lck ds, v, h => by
    obtain ⟨a, xs, rfl, h1, _⟩ := h.lck' sm
    rcases h1 with (h1 | ⟨o, h1⟩) | ⟨o, its, n, h1, h2, _⟩
    · exact .base (.lst h1)
    · exact .base (.frz h1)
    · exact .kList h1 h2
  | .tup ds, v, h => by
    obtain ⟨a, xs, rfl, h1, _⟩ := h.tup' sm
    rcases h1 with (h1 | ⟨o, h1⟩) | ⟨o, its, n, h1, h2, _⟩
    · exact .base (.tup h1)
    · exact .fTuple h1
    · exact .kTuple h1 h2
  | .dct ks vs, v, h => by obtain ⟨a, xs, rfl, h1, _⟩ := h; exact .base (.dK h1)
variable {pos p p2 : Pos} {e : Expr} {te ta tb tc : TEp}
def pIsi (T : String) (te : TEp) : TEp := fun env K => te env fun r e => rd e r fun d => K (.sh (.bl (isT T d))) e
theorem e_isi {x : Str} {T : String} (hT : TKnown T) (he : E X e te) (hg : Gl X "isinstance") (hm : X.mg "isinstance" = none) (hg2 : Gl X x) (hm2 : X.mg x = none) (hv : bootBuiltins x = some (.type T)) (hn : x ≠ "__name__" := by decide) (hd : (x == ("__debug__" : Str)) = false := by decide)
    (hs1 : starEach [e, .Name x p2] X.env = (false, eval e X.env) :: starEach [.Name x p2] X.env := by rfl) (hs2 : starEach [.Name x p2] X.env = (false, eval (.Name x p2) X.env) :: starEach [] X.env := by rfl) (hpl : (backTo pos (starEach [.Name x p2] X.env)).any (·.1) = false := by rfl) :
    E X (.Call (.Name "isinstance" p) [e, .Name x p2] [] pos) (pIsi T te) := by
  refine peImp (pe_callB (call_isi) hg hm boot_isinstance (pa_cons he (pa_cons (pe_bltn (v := .ty T) hg2 hm2 hv rfl hn hd) pa_nil hs2) hs1) (by decide) (by decide) hs1 hpl) fun σ H Q ⟨P, env, K', S, t, k⟩ => ?_
  refine ⟨P, env, _, S, t, fun r e v P1 H1 t1 A1 R1 => ?_⟩
  obtain ⟨d, t1, X1⟩ := rd_ok A1.sim R1.1 t1
  exact ⟨v, .ty T, _, _, _, rfl, .ty T, ty_of (mask_same _ _) X1, kit_ty (kit_isT hT d), k _ e _ P1 H1 t1 A1 ⟨rfl, fun o a z => nomatch z⟩⟩

/-! ### a < b < c -/
variable {a b c : Expr}
def pChain (f g : D → D → (Rv → Prop) → Prop) (ta tb tc : TEp) : TEp := fun env K => ta env fun r1 e1 => settle r1 fun r1 => tb e1 fun r2 e2 => settle r2 fun r2 => rd e2 r1 fun x => rd e2 r2 fun y => f x y fun q => match q with
  | .sh (.bl b) => (match b with
    | true => tc e2 fun r3 e3 => rd e3 r2 fun y => rd e3 r3 fun z => g y z fun q => K q e3
    | false => K (.sh (.bl false)) e2)
  | _ => False
theorem chain_ok {K : PySem.W.Frag} {f g : D → D → (Rv → Prop) → Prop} {r r' : R2} {σ : L2.St} {H : Hp} {Q : VK}
    (hf : ∀ P H x y v u Kf Q, (∀ a, P a → H a ≠ none) → Rt K (mask H P) H x v → Rt K (mask H P) H y u → f x y Kf → (∀ q w P' H', Kf q → NewRes K P H P' H' q w → Q w H') → r v u H Q)
    (hg : ∀ P H x y v u Kf Q, (∀ a, P a → H a ≠ none) → Rt K (mask H P) H x v → Rt K (mask H P) H y u → g x y Kf → (∀ q w P' H', Kf q → NewRes K P H P' H' q w → Q w H') → r' v u H Q)
    (h : liftE K (pChain f g ta tb tc) σ H Q) : tChain r r' (liftE K ta) (liftE K tb) (liftE K tc) σ H Q := by
  obtain ⟨P, env, K', S, t, k⟩ := h
  refine ⟨P, env, _, S, t, fun r1 e1 v1 P1 H1 t1 A1 R1 => ?_⟩
  obtain ⟨r1', P1', t1, n1, A1, R1⟩ := settle_ok A1 R1 t1
  refine ⟨P1', e1, _, A1.sim, t1, fun r2 e2 v2 P2 H2 t2 A2 R2 => ?_⟩
  obtain ⟨r2', P2', t2, n2, A2, R2⟩ := settle_ok A2 R2 t2
  obtain ⟨x, t2, X1⟩ := rd_ok A2.sim (R1.aft A1.sim A2 n1) t2
  obtain ⟨y, t2, Y1⟩ := rd_ok A2.sim R2 t2
  refine hf P2' H2 x y v1 v2 _ _ A2.sim.dom X1 Y1 t2 fun q w P3 H3 kq n => ?_
  have A12 := A1.trans A2
  cases q with
  | own o => exact kq.elim
  | bor i => exact kq.elim
  | sh d =>
    cases d with
    | bl bb =>
      have ew : w = .bl bb := n.2.2
      have A3 := A12.trans (n.aft A2.sim)
      refine ⟨bb, ew, ?_⟩
      cases bb with
      | false => exact iteF (k _ e2 _ P3 H3 kq A3 ⟨rfl, fun o a z => nomatch z⟩)
      | true =>
        refine iteT ⟨P3, e2, _, A3.sim, kq, fun r3 e3 v3 P4 H4 t4 A4 R4 => ?_⟩
        have R2a := R2.aft A2.sim ((n.aft A2.sim).trans A4) n2
        obtain ⟨y, t4, Y4⟩ := rd_ok A4.sim R2a t4
        obtain ⟨z, t4, Z4⟩ := rd_ok A4.sim R4.1 t4
        refine hg P4 H4 y z v2 v3 _ _ A4.sim.dom Y4 Z4 t4 fun q w P5 H5 kq n => ?_
        have A5 := A3.trans A4
        exact k q e3 w P5 H5 kq (A5.trans (n.aft A4.sim)) (Res.aft A5 (n.res A4.sim))
    | _ => exact kq.elim
theorem e_chain {op op' : CmpOp} {f g} (ho : OpP X (compareOp op) f) (ho' : OpP X (compareOp op') g) (ha : E X a ta) (hb : E X b tb) (hc : E X c tc) (hm : lastMarks [op, op'] [b, c] = false := by with_unfolding_all rfl) : E X (.Compare a [op, op'] [b, c] pos) (pChain f g ta tb tc) := by
  obtain ⟨r, ho, hr⟩ := ho
  obtain ⟨r', ho', hr'⟩ := ho'
  exact peImp (pe_chain ho ho' ha hb hc hm) fun σ H Q h => chain_ok hr hr' h
theorem t_chain {op op' : CmpOp} {f g} (ho : OpP X (compareOp op) f) (ho' : OpP X (compareOp op') g) (ha : E X a ta) (hb : E X b tb) (hc : E X c tc) (hm : lastMarks [op, op'] [b, c] = false := by with_unfolding_all rfl) : T X (.Compare a [op, op'] [b, c] pos) (pTst (pChain f g ta tb tc)) := by
  obtain ⟨r, ho, hr⟩ := ho
  obtain ⟨r', ho', hr'⟩ := ho'
  exact ptImp (pt_chain ho ho' ha hb hc hm) fun σ H Q h => chain_ok hr hr' (pTst_ok h)
end

/-! ### methods of texts -/
section
variable {X : Cx} {o e : Expr} {es : List Expr} {to te : TEp} {tA : TAp} {apos cpos : Pos}
def MtP (X : Cx) (id : String) (f : D → List D → (Rv → Prop) → Prop) : Prop :=
  ∃ r : V → List V → Hp → VK → Prop, MtR X id r ∧ ∀ P H x v ds vs Kf Q, (∀ a, P a → H a ≠ none) → Rt X.K (mask H P) H x v → RtA X.K (mask H P) H ds vs → f x ds Kf → (∀ q w P' H', Kf q → NewRes X.K P H P' H' q w → Q w H') → r v vs H Q
def tyD (T : String) (d : D) : Prop := match d with
  | .str _ => T = "str"
  | .lst _ => T = "list"
  | .lck _ => T = "list"
  | .dct _ _ => T = "dict"
  | _ => False
theorem tyD_V {K : PySem.W.Frag} {Hs H : Hp} (sm : Same Hs H) {T : String} {d : D} {v : V} (h : tyD T d) (r : Rt K Hs H d v) : tyV K T v H := by
  cases d with
  | str l => rw [show v = _ from r]; exact h
  | lst ds => obtain ⟨a, xs, rfl, h1, _⟩ := r; exact .inl ⟨h, xs, SqL.of h1⟩
  | lck ds => obtain ⟨a, xs, rfl, h1, _⟩ := r.lck' sm; exact .inl ⟨h, xs, h1⟩
  | dct ks vs => obtain ⟨a, xs, rfl, h1, _⟩ := r; exact .inr (.inr (.inl ⟨h, .inl ⟨xs, h1⟩⟩))
  | _ => exact h.elim
def pBM (T : String) (f : D → List D → (Rv → Prop) → Prop) (to : TEp) (tA : TAp) : TEp := fun env K => to env fun r1 e1 => settle r1 fun r1 => rd e1 r1 fun x0 => tyD T x0 ∧ tA e1 fun rs e2 => rd e2 r1 fun x => rdAll e2 rs fun ds => f x ds fun r => K r e2
def pBM0 (T : String) (f : D → List D → (Rv → Prop) → Prop) (to : TEp) : TEp := fun env K => to env fun r1 e1 => rd e1 r1 fun x => tyD T x ∧ f x [] fun r => K r e1
theorem bm_ok {K : PySem.W.Frag} {T : String} {f : D → List D → (Rv → Prop) → Prop} {r : V → List V → Hp → VK → Prop} {σ : L2.St} {H : Hp} {Q : VK}
    (hr : ∀ P H x v ds vs Kf Q, (∀ a, P a → H a ≠ none) → Rt K (mask H P) H x v → RtA K (mask H P) H ds vs → f x ds Kf → (∀ q w P' H', Kf q → NewRes K P H P' H' q w → Q w H') → r v vs H Q)
    (h : liftE K (pBM T f to tA) σ H Q) : tBM K T r (liftE K to) (liftA K tA) σ H Q := by
  obtain ⟨P, env, K', S, t, k⟩ := h
  refine ⟨P, env, _, S, t, fun r1 e1 v1 P1 H1 t1 A1 R1 => ?_⟩
  obtain ⟨r1', P1', t1, n1, A1, R1⟩ := settle_ok A1 R1 t1
  obtain ⟨x0, ⟨ty, t1⟩, X0⟩ := rd_ok A1.sim R1 t1
  refine ⟨tyD_V (mask_same _ _) ty X0, P1', e1, _, A1.sim, t1, fun rs e2 vs P2 H2 t2 A2 R2 => ?_⟩
  obtain ⟨x, t2, X1⟩ := rd_ok A2.sim (R1.aft A1.sim A2 n1) t2
  obtain ⟨ds, t2, Y1⟩ := rdAll_ok A2.sim R2 t2
  refine hr P2 H2 x v1 ds vs _ _ A2.sim.dom X1 Y1 t2 fun q w P3 H3 kq n => ?_
  have A3 := A1.trans A2
  exact k q e2 w P3 H3 kq (A3.trans (n.aft A2.sim)) (Res.aft A3 (n.res A2.sim))
theorem bm0_ok {K : PySem.W.Frag} {T : String} {f : D → List D → (Rv → Prop) → Prop} {r : V → List V → Hp → VK → Prop} {σ : L2.St} {H : Hp} {Q : VK}
    (hr : ∀ P H x v ds vs Kf Q, (∀ a, P a → H a ≠ none) → Rt K (mask H P) H x v → RtA K (mask H P) H ds vs → f x ds Kf → (∀ q w P' H', Kf q → NewRes K P H P' H' q w → Q w H') → r v vs H Q)
    (h : liftE K (pBM0 T f to) σ H Q) : tBM0 K T r (liftE K to) σ H Q := by
  obtain ⟨P, env, K', S, t, k⟩ := h
  refine ⟨P, env, _, S, t, fun r1 e1 v1 P1 H1 t1 A1 R1 => ?_⟩
  obtain ⟨x, ⟨ty, t1⟩, X0⟩ := rd_ok A1.sim R1.1 t1
  refine ⟨tyD_V (mask_same _ _) ty X0, ?_⟩
  refine hr P1 H1 x v1 [] [] _ _ A1.sim.dom X0 rfl t1 fun q w P3 H3 kq n => ?_
  exact k q e1 w P3 H3 kq (A1.trans (n.aft A1.sim)) (Res.aft A1 (n.res A1.sim))
theorem e_bm {T id : String} {name : Str} {f} (pa : PlainAttrs T) (slot : Slot T name id) (hty : typeOf (.builtin id) = pure (.type "method_descriptor")) (hm : MtP X id f) (ho : E X o to) (ha : A X (e :: es) tA)
    (hbase : attributeBase o name X.env (eval o X.env) = eval o X.env := by rfl)
    (hfew : ((backTo cpos (starEach (e :: es) X.env)).all (fun x => !x.1) && (backToKw cpos (keywordEach [] X.env)).all (fun x => x.1.isSome)
      && decide ((e :: es).length + ([] : List Keyword).length + (if ([] : List Keyword).isEmpty then 0 else 1) < 30)) = true := by rfl)
    (hline : (apos.endLine == cpos.line) = true := by rfl) (hs : starEach (e :: es) X.env = (false, eval e X.env) :: starEach es X.env := by rfl) (hplain : (backTo cpos (starEach es X.env)).any (·.1) = false := by rfl) :
    E X (.Call (.Attribute o name apos) (e :: es) [] cpos) (pBM T f to tA) := by
  obtain ⟨r, hm, hr⟩ := hm
  exact peImp (pe_bm pa slot hty hm ho ha hbase hfew hline hs hplain) fun σ H Q h => bm_ok hr h
theorem e_bm0 {T id : String} {name : Str} {f} (pa : PlainAttrs T) (slot : Slot T name id) (hty : typeOf (.builtin id) = pure (.type "method_descriptor")) (hm : MtP X id f) (ho : E X o to)
    (hbase : attributeBase o name X.env (eval o X.env) = eval o X.env := by rfl) (hline : (apos.endLine == cpos.line) = true := by rfl) :
    E X (.Call (.Attribute o name apos) [] [] cpos) (pBM0 T f to) := by
  obtain ⟨r, hm, hr⟩ := hm
  exact peImp (pe_bm0 pa slot hty hm ho hbase hline) fun σ H Q h => bm0_ok hr h
def isStrs (ds : List D) (k : List (List Nat) → Prop) : Prop := ∃ ls : List (List Nat), ds = ls.map D.str ∧ k ls
def mJoin (x : D) (ds : List D) (K : Rv → Prop) : Prop := match x, ds with
  | .str s, [.lst xs] => isStrs xs fun ls => (ls.map List.length).sum + ls.length * s.length ≤ 16777216 ∧ K (.sh (.str (joinL s ls)))
  | _, _ => False
theorem m_join : MtP X "str.join" mJoin := by
  refine ⟨_, mt_join, fun P H x v ds vs Kf Q dom rx rt f k => ?_⟩
  unfold mJoin at f
  split at f
  · rename_i sp xs0
    obtain ⟨ls, rfl, hz, f⟩ := f
    cases (show v = _ from rx)
    obtain ⟨v, rfl, a, xs, rfl, h1, h2⟩ := rt.one
    rw [RA.strs.mp h2] at h1
    refine ⟨_, a, ls.map toStr, rfl, rfl, .inl (SqL.of h1), ?_, ?_⟩
    · have e : (ls.map toStr).map (·.length) = ls.map List.length := by
        rw [List.map_map]
        exact List.map_congr_left fun z _ => toStr_len z
      rw [e, List.length_map, toStr_len]
      exact hz
    · have e : Txt.join (toStr sp) (ls.map toStr) = toStr (joinL sp ls) := by
        rw [join_eq, ← toStr_self (Str.join _ _)]
        congr 1
        have := tl_join (toStr sp) (ls.map toStr)
        rw [List.map_map] at this
        have e2 : (tl ∘ toStr) = id := funext fun z => toStr_list z
        rw [e2, List.map_id] at this
        rw [show (Str.join (toStr sp) (ls.map toStr)).cps.toList = tl (Str.join (toStr sp) (ls.map toStr)) from rfl, this]
        rfl
      rw [e]
      exact k _ _ _ _ f (resStr _)
  · exact f.elim
theorem joinL_nil : ∀ ls : List (List Nat), joinL [] ls = ls.flatten
  | [] => rfl
  | [p] => by simp [joinL]
  | p :: q :: r => by
    show p ++ ([] ++ joinL [] (q :: r)) = _
    rw [joinL_nil (q :: r)]
    simp
end
end PL
namespace PL
open PySem PySem.Spec PyProof.Rows L2 TL

/-! ### a slot's own list is changed -/
section
variable {X : Cx} {e : Expr} {es : List Expr} {te tk : TEp} {tA : TAp} {apos cpos pos pos' : Pos}
/-- a method that changes a list, by data: what it hands back, what then stands in the list -/
def MutP (K : PySem.W.Frag) (r : V → List V → Hp → VK → Prop) (f : List D → List D → (D → List D → Prop) → Prop) : Prop :=
  ∀ P H a xs ds args vs Kf Q, H a = some (.lst xs) → RA K (mask H P) ds xs → RA K (mask H P) args vs → f ds args Kf → (∀ d ds' w xs', Kf d ds' → RA K (mask H P) ds' xs' → R K (mask H P) d w → Q w (upd H a (.lst xs'))) → r (.ref a) vs H Q
def ownL (env : Ev) (i : Nat) (k : List D → Prop) : Prop := match env[i]? with
  | some (Sl.own (.lst ds)) => k ds
  | _ => False
theorem ownL_at {K : PySem.W.Frag} {P : Addr → Prop} {env : Ev} {σ : L2.St} {H : Hp} (S : Sim K P env σ H) {i : Nat} {k : List D → Prop} (h : ownL env i k) : ∃ ds a xs, env[i]? = some (.own (.lst ds)) ∧ σ[i]? = some (some (V.ref a)) ∧ P a ∧ H a = some (.lst xs) ∧ RA K (mask H P) ds xs ∧ k ds := by
  unfold ownL at h
  cases e : env[i]? with
  | none => simp only [e] at h
  | some s =>
    cases s with
    | own o =>
      cases o with
      | lst ds =>
        simp only [e] at h
        obtain ⟨a, h1, h2, xs, h3, h4⟩ := S.slot i _ e
        exact ⟨ds, a, xs, rfl, h1, h2, h3, h4, h⟩
      | _ => simp only [e] at h
    | _ => simp only [e] at h
def pMut (i : Nat) (f : List D → List D → (D → List D → Prop) → Prop) (tA : TAp) : TEp := fun env K => ownL env i fun _ => tA env fun rs e1 => shAll e1 rs fun args e2 => ownL e2 i fun ds => f ds args fun d ds' => K (.sh d) (e2.set i (.own (.lst ds')))
theorem mut_ok {K : PySem.W.Frag} {i : Nat} {r : V → List V → Hp → VK → Prop} {f : List D → List D → (D → List D → Prop) → Prop} (hr : MutP K r f) {σ : L2.St} {H : Hp} {Q : VK} (h : liftE K (pMut i f tA) σ H Q) : tBM K "list" r (tVar i) (liftA K tA) σ H Q := by
  obtain ⟨P, env, K', S, t, k⟩ := h
  obtain ⟨ds0, a, xs0, e0, hσ, hP, hH, _, t⟩ := ownL_at S t
  refine ⟨.ref a, hσ, .inl ⟨rfl, xs0, SqL.of hH⟩, P, env, _, S, t, fun rs e1 vs P1 H1 t1 A1 R1 => ?_⟩
  obtain ⟨args, e2, P2, t2, A2, X2⟩ := shAll_ok A1.sim R1 t1
  have A3 := A1.trans A2
  obtain ⟨ds, a', xs, e3, hσ', hP', hH', hR, t3⟩ := ownL_at A3.sim t2
  rw [hσ] at hσ'
  cases hσ'
  refine hr P2 H1 a xs ds args vs _ _ hH' hR X2 t3 fun d ds' w xs' kf r1 r2 => ?_
  obtain ⟨S4, st4, un4, _⟩ := A3.sim.write (ho := .lst xs') (s' := .own (.lst ds')) e3 rfl (.inl ⟨⟨_, rfl⟩, rfl⟩) hσ ⟨xs', rfl, r1⟩
  exact k _ _ w P2 _ kf (A3.trans ⟨S4, st4, un4⟩) ⟨R.mono (st4.masks A3.sim) _ _ r2, fun o b z => nomatch z⟩
theorem e_mut (i : Nat) {y name : Str} {py : Pos} {id : String} {r : V → List V → Hp → VK → Prop} {f} (slot : Slot "list" name id) (hty : typeOf (.builtin id) = pure (.type "method_descriptor")) (hm : MtR X id r) (hr : MutP X.K r f) (ha : A X (e :: es) tA)
    (hN : X.N[i]? = some y := by rfl) (hv : Vis X.env.scope y := by first | exact Or.inl rfl | exact Or.inr (Or.inl rfl) | exact Or.inr (Or.inr rfl)) (hd : (y == ("__debug__" : Str)) = false := by decide) (hcd : (y == ("__classdict__" : Str)) = false := by decide)
    (hbase : attributeBase (.Name y py) name X.env (eval (.Name y py) X.env) = eval (.Name y py) X.env := by rfl)
    (hfew : ((backTo cpos (starEach (e :: es) X.env)).all (fun x => !x.1) && (backToKw cpos (keywordEach [] X.env)).all (fun x => x.1.isSome)
      && decide ((e :: es).length + ([] : List Keyword).length + (if ([] : List Keyword).isEmpty then 0 else 1) < 30)) = true := by rfl)
    (hline : (apos.endLine == cpos.line) = true := by rfl) (hs : starEach (e :: es) X.env = (false, eval e X.env) :: starEach es X.env := by rfl) (hplain : (backTo cpos (starEach es X.env)).any (·.1) = false := by rfl) :
    E X (.Call (.Attribute (.Name y py) name apos) (e :: es) [] cpos) (pMut i f tA) :=
  peImp (pe_bm PySem.F.plainAttrs_list slot hty hm (pv i hN hv hd hcd) ha hbase hfew hline hs hplain) fun σ H Q h => mut_ok hr h
def fAppend (ds args : List D) (K : D → List D → Prop) : Prop := match args with
  | [d] => ds.length < sizeLine ∧ K .non (ds ++ [d])
  | _ => False
theorem mu_append {K : PySem.W.Frag} : MutP K rAppend fAppend := fun P H a xs ds args vs Kf Q hH hR hA f k => by
  unfold fAppend at f
  split at f
  · obtain ⟨v, vr, rfl, h1, h2⟩ := hA
    cases (show vr = [] from h2)
    exact ⟨a, xs, v, rfl, rfl, hH, by rw [← hR.len]; exact f.1, k _ _ _ _ f.2 (hR.app (RA.one h1)) rfl⟩
  · exact f.elim
theorem e_append (i : Nat) {y : Str} {py : Pos} (he : E X e te) (hN : X.N[i]? = some y := by rfl) (hv : Vis X.env.scope y := by first | exact Or.inl rfl | exact Or.inr (Or.inl rfl) | exact Or.inr (Or.inr rfl)) (hd : (y == ("__debug__" : Str)) = false := by decide) (hcd : (y == ("__classdict__" : Str)) = false := by decide)
    (hbase : attributeBase (.Name y py) "append" X.env (eval (.Name y py) X.env) = eval (.Name y py) X.env := by rfl)
    (hfew : ((backTo cpos (starEach [e] X.env)).all (fun x => !x.1) && (backToKw cpos (keywordEach [] X.env)).all (fun x => x.1.isSome)
      && decide ([e].length + ([] : List Keyword).length + (if ([] : List Keyword).isEmpty then 0 else 1) < 30)) = true := by rfl)
    (hline : (apos.endLine == cpos.line) = true := by rfl) (hs : starEach [e] X.env = (false, eval e X.env) :: starEach [] X.env := by rfl) (hplain : (backTo cpos (starEach [] X.env)).any (·.1) = false := by rfl) :
    E X (.Call (.Attribute (.Name y py) "append" apos) [e] [] cpos) (pMut i fAppend (pCons te pNil)) :=
  e_mut i PySem.F.slot_list_append PySem.F.type_list_append mt_append mu_append (a_cons he a_nil hs) hN hv hd hcd hbase hfew hline hs hplain
def fInsert (ds args : List D) (K : D → List D → Prop) : Prop := match args with
  | [.int i, d] => (ds.length < sizeLine ∧ 0 ≤ i ∧ i < 2 ^ 63) ∧ K .non (ds.take i.toNat ++ [d] ++ ds.drop i.toNat)
  | _ => False
theorem mu_insert {K : PySem.W.Frag} : MutP K (fun x vs H Q => ∃ (l : Addr) (xs : List V) (i : Int) (y : V), x = .ref l ∧ vs = [.int i, y] ∧ H l = some (.lst xs) ∧ xs.length < sizeLine ∧ 0 ≤ i ∧ i < 2 ^ 63 ∧
    Q .non (upd H l (.lst (xs.take i.toNat ++ [y] ++ xs.drop i.toNat)))) fInsert := fun P H a xs ds args vs Kf Q hH hR hA f k => by
  unfold fInsert at f
  split at f
  · obtain ⟨v, vr, rfl, h1, v2, vr2, rfl, h2, h3⟩ := hA
    cases (show vr2 = [] from h3)
    cases (show v = _ from h1)
    exact ⟨a, xs, _, v2, rfl, rfl, hH, by rw [← hR.len]; exact f.1.1, f.1.2.1, f.1.2.2, k _ _ _ _ f.2 (((hR.take _).app (RA.one h2)).app (hR.drop _)) rfl⟩
  · exact f.elim
/-- xs.extend(a list) -/
def pExt (i : Nat) (te : TEp) : TEp := fun env K => ownL env i fun _ => te env fun r e1 => settle r fun r => rd e1 r fun d => ownL e1 i fun ds => match d with
  | .lst bs => ds.length + bs.length ≤ sizeLine ∧ K (.sh .non) (e1.set i (.own (.lst (ds ++ bs))))
  | _ => False
theorem ext_ok {K : PySem.W.Frag} {i : Nat} {σ : L2.St} {H : Hp} {Q : VK} (h : liftE K (pExt i te) σ H Q) : tBM K "list" rExtend (tVar i) (tCons (liftE K te) tNil) σ H Q := by
  obtain ⟨P, env, K', S, t, k⟩ := h
  obtain ⟨ds0, a, xs0, e0, hσ, hP, hH, _, t⟩ := ownL_at S t
  refine ⟨.ref a, hσ, .inl ⟨rfl, xs0, SqL.of hH⟩, P, env, _, S, t, fun r e1 v P1 H1 t1 A1 R1 => ?_⟩
  obtain ⟨r', P2, t1, n1, A2, R2⟩ := settle_ok A1 R1 t1
  obtain ⟨d, t2, X2⟩ := rd_ok A2.sim R2 t1
  obtain ⟨ds, a', xs, e3, hσ', hP', hH', hR, t3⟩ := ownL_at A2.sim t2
  rw [hσ] at hσ'
  cases hσ'
  cases d with
  | lst bs =>
    obtain ⟨b, ys, rfl, g1, g2⟩ := X2
    refine ⟨a, b, xs, ys, rfl, rfl, hH', g1, by rw [← hR.len, ← g2.len]; exact t3.1, ?_⟩
    obtain ⟨S4, st4, un4, _⟩ := A2.sim.write (ho := .lst (xs ++ ys)) (s' := .own (.lst (ds ++ bs))) e3 rfl (.inl ⟨⟨_, rfl⟩, rfl⟩) hσ ⟨_, rfl, hR.app g2⟩
    exact k _ _ .non P2 _ t3.2 (A2.trans ⟨S4, st4, un4⟩) ⟨rfl, fun o b z => nomatch z⟩
  | _ => exact t3.elim
theorem e_extend (i : Nat) {y : Str} {py : Pos} (he : E X e te) (hN : X.N[i]? = some y := by rfl) (hv : Vis X.env.scope y := by first | exact Or.inl rfl | exact Or.inr (Or.inl rfl) | exact Or.inr (Or.inr rfl)) (hd : (y == ("__debug__" : Str)) = false := by decide) (hcd : (y == ("__classdict__" : Str)) = false := by decide)
    (hbase : attributeBase (.Name y py) "extend" X.env (eval (.Name y py) X.env) = eval (.Name y py) X.env := by rfl)
    (hfew : ((backTo cpos (starEach [e] X.env)).all (fun x => !x.1) && (backToKw cpos (keywordEach [] X.env)).all (fun x => x.1.isSome)
      && decide ([e].length + ([] : List Keyword).length + (if ([] : List Keyword).isEmpty then 0 else 1) < 30)) = true := by rfl)
    (hline : (apos.endLine == cpos.line) = true := by rfl) (hs : starEach [e] X.env = (false, eval e X.env) :: starEach [] X.env := by rfl) (hplain : (backTo cpos (starEach [] X.env)).any (·.1) = false := by rfl) :
    E X (.Call (.Attribute (.Name y py) "extend" apos) [e] [] cpos) (pExt i te) :=
  peImp (pe_bm PySem.F.plainAttrs_list PySem.F.slot_list_extend PySem.F.type_list_extend mt_extend (pv i hN hv hd hcd) (pa_cons he pa_nil hs) hbase hfew hline hs hplain) fun σ H Q h => ext_ok h
/-- xs.pop() -/
def pPop (i : Nat) : TEp := fun env K => ownL env i fun ds => ∃ ds' d, ds = ds' ++ [d] ∧ K (.sh d) (env.set i (.own (.lst ds')))
theorem pop_ok {K : PySem.W.Frag} {i : Nat} {σ : L2.St} {H : Hp} {Q : VK} (h : liftE K (pPop i) σ H Q) : tBM0 K "list" rPop (tVar i) σ H Q := by
  obtain ⟨P, env, K', S, t, k⟩ := h
  obtain ⟨ds, a, xs, e0, hσ, hP, hH, hR, ds', d, rfl, t⟩ := ownL_at S t
  have hl := hR.len
  rw [List.length_append] at hl
  have hd : (ds' ++ [d])[xs.length - 1]? = some d := by
    have e : xs.length - 1 = ds'.length := by simp at hl; omega
    rw [e]; simp
  obtain ⟨v, hv, rv⟩ := hR.get hd
  refine ⟨.ref a, hσ, .inl ⟨rfl, xs, SqL.of hH⟩, a, xs, v, rfl, rfl, hH, hv, ?_⟩
  have hR2 : RA K (mask H P) ds' xs.dropLast := by
    have := hR.dropLast
    rw [List.dropLast_concat] at this
    exact this
  obtain ⟨S4, st4, un4, _⟩ := S.write (ho := .lst xs.dropLast) (s' := .own (.lst ds')) e0 rfl (.inl ⟨⟨_, rfl⟩, rfl⟩) hσ ⟨_, rfl, hR2⟩
  exact k _ _ v P _ t ⟨S4, st4, un4⟩ ⟨R.mono (st4.masks S) _ _ rv, fun o b z => nomatch z⟩
theorem e_pop (i : Nat) {y : Str} {py : Pos} (hN : X.N[i]? = some y := by rfl) (hv : Vis X.env.scope y := by first | exact Or.inl rfl | exact Or.inr (Or.inl rfl) | exact Or.inr (Or.inr rfl)) (hd : (y == ("__debug__" : Str)) = false := by decide) (hcd : (y == ("__classdict__" : Str)) = false := by decide)
    (hbase : attributeBase (.Name y py) "pop" X.env (eval (.Name y py) X.env) = eval (.Name y py) X.env := by rfl) (hline : (apos.endLine == cpos.line) = true := by rfl) :
    E X (.Call (.Attribute (.Name y py) "pop" apos) [] [] cpos) (pPop i) :=
  peImp (pe_bm0 PySem.F.plainAttrs_list PySem.F.slot_list_pop PySem.F.type_list_pop mt_pop (pv i hN hv hd hcd) hbase hline) fun σ H Q h => pop_ok h

/-- x[k] = v, x a slot's own list or the first argument's -/
def sSto (i : Nat) (tk te : TEp) : TSp := fun D' env => te env fun r e1 => share e1 r fun d e2 => match e2[i]? with
  | some (Sl.own (.lst _)) => tk e2 fun rk e3 => rd e3 rk fun kd => match e3[i]? with
    | some (Sl.own (.lst ds)) => ∃ k j, kd = .int k ∧ ixN ds.length k = some j ∧ D'.nx (e3.set i (.own (.lst (ds.set j d))))
    | _ => False
  | some (Sl.io (.lst _)) => tk e2 fun rk e3 => rd e3 rk fun kd => match e3[i]? with
    | some (Sl.io (.lst ds)) => ∃ k j, kd = .int k ∧ ixN ds.length k = some j ∧ D'.nx (e3.set i (.io (.lst (ds.set j d))))
    | _ => False
  | _ => False
theorem sto_ok {K : PySem.W.Frag} {i : Nat} {D' : Ends} {σ : L2.St} {H : Hp} (h : liftS K (sSto i tk te) D' σ H) : tAsg (liftE K te) (gSub (tVar i) (liftE K tk) rSetL) D' σ H := by
  obtain ⟨P, env, K', S, t, f⟩ := h
  refine ⟨P, env, _, S, t, fun r e1 v P1 H1 t1 A1 R1 => ?_⟩
  obtain ⟨d, e2, P2, t2, A2, r2⟩ := share_ok A1 R1 t1
  have go : ∀ (mk : Ow → Sl) (hmk : ∀ o, (mk o).ow? = some o) (hk2 : ∀ o o', (∃ o1, mk o = .own o1) ∧ mk o' = .own o' ∨ (∃ o1, mk o = .io o1) ∧ mk o' = .io o') (ds0 : List D) (e0 : e2[i]? = some (mk (.lst ds0))) (K2 : D → Ev → Prop)
      (hK : ∀ kd e3, K2 kd e3 → ∃ ds k j, e3[i]? = some (mk (.lst ds)) ∧ kd = .int k ∧ ixN ds.length k = some j ∧ K'.nx (e3.set i (mk (.lst (ds.set j d))))) (t : tk e2 fun rk e3 => rd e3 rk fun kd => K2 kd e3), gSub (tVar i) (liftE K tk) rSetL v σ H1 D'.nx := by
    intro mk hmk hk2 ds0 e0 K2 hK t
    obtain ⟨a, hσ, hP, xs0, hH, _⟩ := (A2.sim.slot i _ e0).at (hmk _)
    refine ⟨.ref a, hσ, P2, e2, _, A2.sim, t, fun rk e3 kv P3 H3 t3 A3 R3 => ?_⟩
    obtain ⟨kd, t3, X3⟩ := rd_ok A3.sim R3.1 t3
    obtain ⟨ds, kk, j, e4, rfl, hj, t4⟩ := hK kd e3 t3
    obtain ⟨a', hσ', hP', xs, hH', hR⟩ := (A3.sim.slot i _ e4).at (hmk _)
    rw [hσ] at hσ'
    cases hσ'
    refine ⟨a, xs, kk, j, rfl, X3, hH', by rw [← hR.len]; exact hj, ?_⟩
    have r3 := R.mono (A3.step.masks A2.sim) _ _ r2
    obtain ⟨S4, st4, un4, _⟩ := A3.sim.write (ho := .lst (xs.set j v)) (s' := mk (.lst (ds.set j d))) e4 (hmk _) (hk2 _ _) hσ ⟨_, rfl, hR.set j r3⟩
    exact f.nx _ _ _ _ t4 S4 (A2.step.trans (A3.step.trans st4))
  cases e0 : e2[i]? with
  | none => simp only [e0] at t2
  | some s =>
    cases s with
    | own o =>
      cases o with
      | lst ds0 =>
        simp only [e0] at t2
        refine go Sl.own (fun _ => rfl) (fun o o' => .inl ⟨⟨o, rfl⟩, rfl⟩) ds0 e0 _ (fun kd e3 q => ?_) t2
        cases e1 : e3[i]? with
        | none => simp only [e1] at q
        | some s =>
          cases s with
          | own o =>
            cases o with
            | lst ds => simp only [e1] at q; obtain ⟨k, j, q⟩ := q; exact ⟨ds, k, j, rfl, q⟩
            | _ => simp only [e1] at q
          | _ => simp only [e1] at q
      | _ => simp only [e0] at t2
    | io o =>
      cases o with
      | lst ds0 =>
        simp only [e0] at t2
        refine go Sl.io (fun _ => rfl) (fun o o' => .inr ⟨⟨o, rfl⟩, rfl⟩) ds0 e0 _ (fun kd e3 q => ?_) t2
        cases e1 : e3[i]? with
        | none => simp only [e1] at q
        | some s =>
          cases s with
          | io o =>
            cases o with
            | lst ds => simp only [e1] at q; obtain ⟨k, j, q⟩ := q; exact ⟨ds, k, j, rfl, q⟩
            | _ => simp only [e1] at q
          | _ => simp only [e1] at q
      | _ => simp only [e0] at t2
    | _ => simp only [e0] at t2
theorem s_sto (i : Nat) {y : Str} {py : Pos} {o : Expr} (hk : E X o tk) (he : E X e te) (hN : X.N[i]? = some y := by rfl) (hv : Vis X.env.scope y := by first | exact Or.inl rfl | exact Or.inr (Or.inl rfl) | exact Or.inr (Or.inr rfl)) (hd : (y == ("__debug__" : Str)) = false := by decide) (hcd : (y == ("__classdict__" : Str)) = false := by decide)
    (ha : ∀ v, assign (.Subscript (.Name y py) o pos') X.env v = (do
      let ov ← holding [v] (eval (.Name y py) X.env)
      let iv ← holding [v, ov] (eval o X.env)
      standAt pos'
      holding [v, ov, iv] (setItem ov iv v)
      release [v, ov, iv] []) := by intro _; rfl)
    (hs : swapsWithSole [.Subscript (.Name y py) o pos'] e pos.line X.env = pure false := by rfl) (hw : swappedStores [.Subscript (.Name y py) o pos'] e X.env = pure none := by rfl) (h1 : (assignEach [.Subscript (.Name y py) o pos'] X.env).map (·.2) = [assign (.Subscript (.Name y py) o pos') X.env] := by rfl) :
    S X (.Assign [.Subscript (.Name y py) o pos'] e pos) (sSto i tk te) :=
  psImp (ps_asg he (pg_sub (pv i hN hv hd hcd) hk set_list ha) hs hw h1) fun D' σ H h => sto_ok h
end

/-! ### list(range(..)) -/
section
variable {X : Cx} {a b : Expr} {ta tb : TEp} {p p1 pos pos1 : Pos}
def pLR1 (ta : TEp) : TEp := fun env K => ta env fun r e => rd e r fun d => match d with
  | .int j => (-(2 ^ 62) ≤ j ∧ j ≤ 16777216) ∧ K (.own (.lst (rangeD 0 j.toNat))) e
  | _ => False
theorem RA.rg {K : PySem.W.Frag} {H : Hp} (a b : Int) : RA K H (rangeD a (b - a).toNat) (rgV a b) := by
  refine RA.iff.mpr ⟨by simp [rangeD, rgV], fun i d v h1 h2 => ?_⟩
  unfold rangeD at h1
  unfold rgV at h2
  rw [List.getElem?_map] at h1 h2
  cases e : (List.range (b - a).toNat)[i]? with
  | none => rw [e] at h1; cases h1
  | some j =>
    rw [e] at h1 h2
    cases h1; cases h2
    rfl
theorem e_listRange1 (hc : X.calm = true) (hg : Gl X "list") (hm : X.mg "list" = none) (hg2 : Gl X "range") (hm2 : X.mg "range" = none) (ha : E X a ta) (na : starEach [a] X.env = (false, eval a X.env) :: starEach [] X.env := by rfl)
    (nb : starEach [.Call (.Name "range" p1) [a] [] pos1] X.env = (false, eval (.Call (.Name "range" p1) [a] [] pos1) X.env) :: starEach [] X.env := by rfl) : E X (.Call (.Name "list" p) [.Call (.Name "range" p1) [a] [] pos1] [] pos) (pLR1 ta) := by
  refine peImp (pe_listRg hc hg hm (prg_1 hg2 hm2 ha na) nb) fun σ H Q ⟨P, env, K', S, t, k⟩ => ?_
  refine ⟨P, env, _, S, t, fun r e v P1 H1 t1 A1 R1 => ?_⟩
  obtain ⟨d, t1, X1⟩ := rd_ok A1.sim R1.1 t1
  cases d with
  | int j =>
    refine ⟨j, X1, ⟨by decide, by decide, t1.1.1, by omega, by omega⟩, fun q hq => ?_⟩
    have hr := RA.rg (K := X.K) (H := mask H1 P1) 0 j
    rw [Int.sub_zero] at hr
    have n := newLst A1.sim.dom hq hr
    exact k _ e _ _ _ t1.2 (A1.trans (n.aft A1.sim)) (Res.aft A1 (n.res A1.sim))
  | _ => exact t1.elim
end

/-! ### enumerate -/
section
variable {X : Cx} {e : Expr} {te : TEp} {p pos tpos : Pos} {elts : List Expr} {kk : Nat}
def enumD : Nat → List D → List D
  | _, [] => []
  | n, d :: ds => .tup [.int n, d] :: enumD (n + 1) ds
theorem enumD_len : ∀ (n : Nat) (ds : List D), (enumD n ds).length = ds.length
  | _, [] => rfl
  | n, d :: ds => by rw [enumD, List.length_cons, List.length_cons, enumD_len (n + 1) ds]
theorem enumD_get : ∀ (n : Nat) (ds : List D) (i : Nat), (enumD n ds)[i]? = ds[i]?.map fun d => .tup [.int ((n + i : Nat) : Int), d]
  | _, [], _ => by simp [enumD]
  | n, d :: ds, 0 => by simp [enumD]
  | n, d :: ds, i + 1 => by
    rw [enumD, List.getElem?_cons_succ, List.getElem?_cons_succ, enumD_get (n + 1) ds i]
    have e : n + 1 + i = n + (i + 1) := by omega
    rw [e]
theorem it_enum {K : PySem.W.Frag} {Hs : Hp} {a : Addr} {xs : List V} {ds : List D} (h : SqL K Hs a xs) (r : RA K Hs ds xs) : ItOk K Hs (Ite K a) (enumD 0 ds) := by
  have hl : xs.length = (enumD 0 ds).length := by rw [enumD_len, r.len]
  refine ⟨fun H => SqL K H a xs, _, hl ▸ walk_enum, fun H s => L2.Same.seq s h, fun i x H1 H2 P1 hi y dom sm => ?_⟩
  obtain ⟨T, x1, x2, rfl, n0, rfl, e1, e2⟩ := y
  cases e1
  obtain ⟨d, ed, rd'⟩ := r.getV e2
  refine ⟨.tup [.int (i : Nat), d], by rw [enumD_get, ed]; simp, ?_⟩
  exact newTup dom n0 ⟨_, _, rfl, rfl, _, _, rfl, R.mono sm _ _ rd', rfl⟩
/-- a text with its places -/
def Itse (x : Str) : It := ⟨fun i _ => i < x.cps.size, fun i H v H' => ∃ T c, v = .ref T ∧ H T = none ∧ H' = upd H T (.tup [.int (i : Nat), .str ⟨#[c]⟩]) ∧ x.cps[i]? = some c, fun i _ => x.cps.size ≤ i⟩
theorem turn_enumS {P : Program} {w : World} {K : PySem.W.Frag} (x : Str) (t : Tok) (e it : Addr) :
    Turn P w K (.Tuple elts kk tpos) (Itse x) [e, it] e (fun i h => (∃ old, IsEnum h e it ((i : Nat) : Int) old) ∧ h.IsStrIter it (strIterType x) x t i ∧ e ≠ it) where
  mem := by simp
  obj := fun i h st b hb => by
    obtain ⟨⟨old, he⟩, ⟨o, ho, hc, hd⟩, _⟩ := st
    have e' : b = e ∨ b = it := by simpa using hb
    rcases e' with z | z
    · rw [z]; exact ⟨_, he, fun v q => nomatch q⟩
    · rw [z]; exact ⟨o, ho, fun v q => by rw [hd] at q; cases q⟩
  keep := fun i h h' st k => let ⟨⟨old, he⟩, ⟨o, ho, r⟩, hne⟩ := st; ⟨⟨old, k e (by simp) _ he⟩, ⟨o, k it (by simp) _ ho, r⟩, hne⟩
  item := by
    intro X hP hw hK hc i pins s σ H E I hf st hg
    subst hP hw hK
    obtain ⟨⟨old, he⟩, hit, hne⟩ := st
    have D : Draws X.prog X.w X.A.in1 it [it] x.cps.size (fun i v => ∃ c u, x.cps[i]? = some c ∧ v = .str ⟨#[c]⟩ u) (fun i h => h.IsStrIter it (strIterType x) x t i) := by
      unfold strIterType
      split
      · exact Draws.strAscii (show X.A.in1.handled = none from I.ok.hd hc) it x t
      · exact Draws.strWide (show X.A.in1.handled = none from I.ok.hd hc) it x t
    have hel : e < s.heap.objs.size := Heap.lt_size he
    have hil : it < s.heap.objs.size := by obtain ⟨_, q, _⟩ := hit; exact Heap.lt_size q
    refine wpAny_pyNext_enum_itemD D he hit hg hne (by simpa using hne) fun u h' tk hPx ho hit' hT hsz hk => ?_
    obtain ⟨c, t2, hcx, rfl⟩ := hPx
    refine ⟨_, rfl, wpAny_letOwnedTupleGo_enum (s := { s with heap := h', toks := tk + 1 }) ho fun h'' he' sb => ?_⟩
    have hT2 : h''.get? s.heap.objs.size = some { cls := .type "tuple", data := .seq #[.int i tk, .str ⟨#[c]⟩ t2] } := (sb.2 _ (Nat.ne_of_gt hel)).trans hT
    have new : ObjOk X.prog X.w (upd H s.heap.objs.size (.tup [.int (i : Nat), .str ⟨#[c]⟩])) h'' s.heap.objs.size (.tup [.int (i : Nat), .str ⟨#[c]⟩]) :=
      ⟨by show 2 ≤ sizeLine; decide, [.int i tk, .str ⟨#[c]⟩ t2], .cons ⟨_, rfl⟩ (.cons ⟨_, rfl⟩ .nil), ⟨_, hT2, rfl, _, rfl⟩⟩
    have I1 : Inv X pins σ (upd H s.heap.objs.size (.tup [.int (i : Nat), .str ⟨#[c]⟩])) { s with heap := h'', toks := tk + 1 } :=
      I.turnedNew (ch := [e, it]) (fun b ob hb q => (sb.2 b (fun z => hb (by simp [z]))).trans (hk b ob (fun z => hb (by simp [z])) (fun z => hb (by simp [z])) q)) hf (Nat.le_refl _) new
    refine ⟨.ref s.heap.objs.size, _, I1, rfl, ⟨_, c, rfl, I.hok.fresh (Nat.le_refl _), rfl, hcx⟩, ⟨⟨.str ⟨#[c]⟩ t2, ?_⟩, ?_, hne⟩, fun b hb => ?_⟩
    · have e1 : ((i + 1 : Nat) : Int) = (i : Int) + 1 := by omega
      rw [e1]; exact he'
    · obtain ⟨o, q, r⟩ := hit'
      exact ⟨o, (sb.2 it (Ne.symm hne)).trans q, r⟩
    · have hb' : b < s.heap.objs.size := by
        have e' : b = e ∨ b = it := by simpa using hb
        rcases e' with z | z
        · rw [z]; exact hel
        · rw [z]; exact hil
      rw [upd_ne (Nat.ne_of_lt hb')]
      exact (hf b hb).1
  done := by
    intro X hP hw hK hc i pins s σ H E I hf st hg
    subst hP hw hK
    obtain ⟨⟨old, he⟩, hit, hne⟩ := st
    obtain ⟨f0, f1, f2, f3, f4, f5⟩ := hf it (by simp)
    have D : Draws X.prog X.w X.A.in1 it [it] i (fun _ _ => True) (fun j h => j = i ∧ h.IsStrIter it (strIterType x) x t i) := by
      have hx : x.cps[i]? = none := by
        have : x.cps.size ≤ i := hg
        simp [this]
      refine ⟨fun _ _ ⟨_, o, ho, _⟩ => ⟨o, ho⟩, fun _ _ _ ⟨q, o, ho, r⟩ hk => ⟨q, o, hk it (by simp) o ho, r⟩, fun j s Q E hj st hQ => absurd hj (by rw [st.1]; omega), fun s Q E st hE => ?_⟩
      obtain ⟨_, st⟩ := st
      unfold strIterType at st
      split at st
      · exact wpAny_nextOf_ascii_end (show X.A.in1.handled = none from I.ok.hd hc) st hx hE
      · exact wpAny_nextOf_wide_end (show X.A.in1.handled = none from I.ok.hd hc) st hx hE
    exact wpAny_pyNext_enum_endD D he ⟨rfl, hit⟩ fun h' eb => ⟨rfl, I.turned (t' := s.toks) (fun b o hb q => eb b o hb q) f0 f1 f3 f4 f5⟩
  self := fun A i s Q E st h => let ⟨⟨_, he⟩, _⟩ := st; wpAny_pyIter_enum he h
end
end PL
namespace PL
open PySem PySem.Spec PyProof.Rows L2 TL

/-! ### text.index(sign) -/
theorem occ_stays (s sub : Str) (hi : Nat) : ∀ (l : List Nat) (st : Array Nat × Nat), 1 ≤ st.fst.size → (forIn l st (StrLaws.occBody s sub hi 1)).run.fst = st.fst
  | [], st, h => rfl
  | a :: l, st, h => by
    rw [List.forIn_cons]
    unfold StrLaws.occBody
    rw [if_neg (fun z => by have := z.1.1.1; omega)]
    exact occ_stays s sub hi l _ h
theorem occ_find (s sub : Str) (hi : Nat) : ∀ (n k i : Nat), (∀ j, k ≤ j → j < i → ¬ (j + sub.length ≤ hi ∧ Builtin.Str.subAt s sub j = true)) → k ≤ i → i < k + n → (i + sub.length ≤ hi ∧ Builtin.Str.subAt s sub i = true) →
    (forIn (List.range' k n) ((#[] : Array Nat), 0) (StrLaws.occBody s sub hi 1)).run.fst = #[i]
  | 0, k, i, _, h1, h2, _ => by omega
  | n + 1, k, i, hno, h1, h2, hy => by
    rw [List.range'_succ, List.forIn_cons]
    unfold StrLaws.occBody
    by_cases e : k = i
    · subst e
      rw [if_pos ⟨⟨⟨by simp, Nat.zero_le _⟩, hy.1⟩, hy.2⟩]
      have := occ_stays s sub hi (List.range' (k + 1) n) ((#[] : Array Nat).push k, k + sub.length) (by simp)
      exact this
    · have hk := hno k (Nat.le_refl _) (by omega)
      rw [if_neg (fun z => hk ⟨z.1.2, z.2⟩)]
      exact occ_find s sub hi n (k + 1) i (fun j h3 h4 => hno j (by omega) h4) (by omega) (by omega) hy
theorem occ_one {l : List Nat} {c i : Nat} (h : l[i]? = some c) (hno : ∀ j, j < i → l[j]? ≠ some c) : Builtin.Str.occurrences (toStr l) (toStr [c]) 0 (toStr l).length 1 = [i] := by
  rw [StrLaws.occ_eq]
  have at_ : ∀ j, (j + (toStr [c]).length ≤ (toStr l).length ∧ Builtin.Str.subAt (toStr l) (toStr [c]) j = true) ↔ l[j]? = some c := fun j => by
    have := StrLaws.subAt_one (toStr l) c j
    rw [toStr_list] at this
    exact this
  have hi : i < l.length := by
    rcases Nat.lt_or_ge i l.length with z | z
    · exact z
    · rw [List.getElem?_eq_none z] at h; cases h
  rw [occ_find (toStr l) (toStr [c]) _ _ 0 i (fun j _ h4 z => hno j h4 ((at_ j).mp z)) (Nat.zero_le _) (by rw [toStr_len]; omega) ((at_ i).mpr h)]
section
variable {X : Cx}
def mSIndex (x : D) (ds : List D) (K : Rv → Prop) : Prop := match x, ds with
  | .str l, [.str [c]] => ∃ i, l[i]? = some c ∧ (∀ j, j < i → l[j]? ≠ some c) ∧ K (.sh (.int (i : Nat)))
  | _, _ => False
theorem m_sindex : MtP X "str.index" mSIndex := by
  refine ⟨_, mt_sindex, fun P H x v ds vs Kf Q dom rx rt f k => ?_⟩
  unfold mSIndex at f
  split at f
  · rename_i l c
    obtain ⟨i, h1, h2, f⟩ := f
    cases (show v = _ from rx)
    obtain ⟨v, rfl, rv⟩ := rt.one
    cases (show v = _ from rv)
    exact ⟨_, _, i, [], rfl, rfl, occ_one h1 h2, k _ _ _ _ f (resInt _)⟩
  · exact f.elim
end

/-! ### enumerate -/
section
variable {X : Cx} {e : Expr} {te : TEp} {p pos tpos : Pos} {elts : List Expr} {kk : Nat}
theorem it_enumS {K : PySem.W.Frag} {Hs : Hp} {l : List Nat} : ItOk K Hs (Itse (toStr l)) (enumD 0 (l.map fun c => .str [c])) := by
  have hl : (toStr l).cps.size = (enumD 0 (l.map fun c => .str [c])).length := by rw [enumD_len]; simp [toStr]
  refine ⟨fun _ => True, fun i H v H' => ∃ T c, v = .ref T ∧ H T = none ∧ H' = upd H T (.tup [.int (i : Nat), .str ⟨#[c]⟩]) ∧ (toStr l).cps[i]? = some c, ⟨fun i _ hi _ => by rw [← hl] at hi; exact hi, fun _ _ => by rw [← hl]; exact Nat.le_refl _, fun i H v H' _ _ y => y⟩, fun H s => trivial, fun i x H1 H2 P1 hi y dom sm => ?_⟩
  obtain ⟨T, c, rfl, n0, rfl, e2⟩ := y
  have e4 : l[i]? = some c := by simpa [toStr] using e2
  refine ⟨.tup [.int (i : Nat), .str [c]], by rw [enumD_get]; simp [e4], ?_⟩
  exact newTup dom n0 ⟨_, _, rfl, rfl, _, _, rfl, rfl, rfl⟩
def pEnum (tA : TAp) : TIp := fun env K => tA env fun rs e1 => shAll e1 rs fun ds e2 => match ds with
  | [.lst xs] => K (enumD 0 xs) e2
  | [.lck xs] => K (enumD 0 xs) e2
  | [.str l] => K (enumD 0 (l.map fun c => .str [c])) e2
  | _ => False
theorem i_enum {tA : TAp} (hg : Gl X "enumerate") (hm : X.mg "enumerate" = none) (ha : A X [e] tA) (hs : starEach [e] X.env = [(false, eval e X.env)] := by rfl) :
    I X (.Tuple elts kk tpos) (.Call (.Name "enumerate" p) [e] [] pos) (pEnum tA) := by
  refine ⟨fun pins s σ H Rr I h => ?_⟩
  obtain ⟨P, env, K', S, t, k⟩ := h
  refine Call_ (ld_blt I hg hm boot_enumerate (PyProof.Rows.callWith_type1 (thn (ha.run pos pins s σ H (fun vs H1 => ∃ ds env2 P2, (match ds with
      | [.lst xs] => K' (enumD 0 xs) env2
      | [.lck xs] => K' (enumD 0 xs) env2
      | [.str l] => K' (enumD 0 (l.map fun c => .str [c])) env2
      | _ => False) ∧ Aft X.K P env σ H P2 env2 H1 ∧ RA X.K (mask H1 P2) ds vs) I ⟨P, env, _, S, t, fun rs e1 vs P1 H1 t1 A1 R1 => ?_⟩) fun us s1 ⟨vs, H1, I1, r1, ds, env2, P2, q1, A2, X1⟩ => ?_) hs rfl))
  · obtain ⟨ds, e2, P2, k2, A2, r2⟩ := shAll_ok A1.sim R1 t1
    exact ⟨ds, e2, P2, k2, A1.trans A2, r2⟩
  · have goL : ∀ a xs ds, vs = [V.ref a] → SqL X.K (mask H1 P2) a xs → RA X.K (mask H1 P2) ds xs → K' (enumD 0 ds) env2 → wpAny (model X.prog X.w) X.A (call (.type "enumerate") us) (fun v s' => wpAny (model X.prog X.w) X.A (pyIter v) (PIE X pins σ (.Tuple elts kk tpos) Rr) X.xe s') X.xe s1 := fun a xs ds e1 h1 h2 q1 => by
      subst e1
      cases r1 with
      | cons r rr =>
        cases rr
        cases r
        obtain ⟨its, rv, p', hz⟩ := I1.list (L2.Same.seq (mask_same H1 P2) h1)
        refine call_enumerate_list p'.isList fun h' he hit hsz hk => wpAny_pyIter_enum he ?_
        have I2 : Inv X pins σ H1 { s1 with heap := h' } := I1.kept (t' := s1.toks) hk
        refine ⟨s1.heap.objs.size + 1, [s1.heap.objs.size + 1, s1.heap.objs.size], _, _, H1, rfl, I2, turn_enum a (s1.heap.objs.size + 1) s1.heap.objs.size, ⟨⟨.none, he⟩, hit, Nat.succ_ne_self _⟩, fun b hb => ?_, k _ _ _ _ _ q1 A2 (it_enum h1 h2)⟩
        have e' : b = s1.heap.objs.size + 1 ∨ b = s1.heap.objs.size := by simpa using hb
        have hle : s1.heap.objs.size ≤ b := by
          rcases e' with z | z
          · rw [z]; exact Nat.le_add_right _ _
          · rw [z]; exact Nat.le_refl _
        exact I1.fpOk hle (I1.hok.fresh hle)
    split at q1
    · rename_i xs0
      obtain ⟨v, vr, rfl, ⟨a, xs, rfl, h1, h2⟩, h3⟩ := X1
      cases (show vr = [] from h3)
      exact goL a xs _ rfl (SqL.of h1) h2 q1
    · rename_i xs0
      obtain ⟨v, vr, rfl, ⟨a, xs, rfl, h1, h2⟩, h3⟩ := X1
      cases (show vr = [] from h3)
      exact goL a xs _ rfl h1 h2 q1
    · rename_i l
      obtain ⟨v, vr, rfl, h1, h3⟩ := X1
      cases (show vr = [] from h3)
      cases (show v = V.str (toStr l) from h1)
      cases r1 with
      | cons r rr =>
        cases rr
        obtain ⟨t, rfl⟩ := r
        refine call_enumerate_str fun h' he hit hsz hk => wpAny_pyIter_enum he ?_
        have I2 : Inv X pins σ H1 { s1 with heap := h' } := I1.kept (t' := s1.toks) hk
        refine ⟨s1.heap.objs.size + 1, [s1.heap.objs.size + 1, s1.heap.objs.size], _, _, H1, rfl, I2, turn_enumS (toStr l) t (s1.heap.objs.size + 1) s1.heap.objs.size, ⟨⟨.none, he⟩, hit, Nat.succ_ne_self _⟩, fun b hb => ?_, k _ _ _ _ _ q1 A2 it_enumS⟩
        have e' : b = s1.heap.objs.size + 1 ∨ b = s1.heap.objs.size := by simpa using hb
        have hle : s1.heap.objs.size ≤ b := by
          rcases e' with z | z
          · rw [z]; exact Nat.le_add_right _ _
          · rw [z]; exact Nat.le_refl _
        exact I1.fpOk hle (I1.hok.fresh hle)
    · exact q1.elim
end

/-! ### dicts: displays, comprehensions -/
def dpv0 : List DK → List D → DK → D → List D
  | k :: ks, v :: vs, x, d => if k = x then d :: dpv0 ks vs x d else v :: dpv0 ks vs x d
  | _, vs, _, _ => vs
def dpk (ks : List DK) (k : DK) : List DK := if kMem k ks then ks else ks ++ [k]
def dpv (ks : List DK) (vs : List D) (k : DK) (d : D) : List D := if kMem k ks then dpv0 ks vs k d else vs ++ [d]
theorem kMem_V {k : DK} : ∀ {ks : List DK} {kvs : List (Key × V)}, kvs.map (·.1) = ks.map kOf → (kvs.any fun kv => decide (kv.1 = kOf k)) = kMem k ks
  | [], [], _ => rfl
  | [], _ :: _, e => by simp at e
  | _ :: _, [], e => by simp at e
  | k0 :: ks, p :: kvs, e => by
    rw [List.map_cons, List.map_cons] at e
    injection e with e1 e2
    have ih := kMem_V (k := k) e2
    unfold kMem at ih ⊢
    rw [List.any_cons, List.any_cons, ih, e1]
    congr 1
    by_cases hk : k0 = k
    · rw [decide_eq_true hk, decide_eq_true (by rw [hk])]
    · rw [decide_eq_false hk, decide_eq_false (fun z => hk (kOf_inj z))]
theorem dpv0_V {K : PySem.W.Frag} {H : Hp} {k : DK} {d : D} {z : V} (r : R K H d z) : ∀ {ks : List DK} {vs : List D} {kvs : List (Key × V)}, kvs.map (·.1) = ks.map kOf → RA K H vs (kvs.map (·.2)) →
    (kvs.map fun kv => if kv.1 = kOf k then (kv.1, z) else kv).map (·.1) = ks.map kOf ∧ RA K H (dpv0 ks vs k d) ((kvs.map fun kv => if kv.1 = kOf k then (kv.1, z) else kv).map (·.2))
  | [], vs, [], e, h => ⟨rfl, by cases vs <;> exact h⟩
  | [], _, _ :: _, e, h => by simp at e
  | _ :: _, _, [], e, h => by simp at e
  | k0 :: ks, [], p :: kvs, e, h => by rw [List.map_cons] at h; cases h
  | k0 :: ks, v0 :: vs, p :: kvs, e, h => by
    rw [List.map_cons, List.map_cons] at e
    injection e with e1 e2
    obtain ⟨v, r', ev, r1, r2⟩ := h
    rw [List.map_cons] at ev
    injection ev with ev1 ev2
    subst ev2
    obtain ⟨q1, q2⟩ := dpv0_V r e2 r2
    rw [List.map_cons, List.map_cons, List.map_cons, q1]
    unfold dpv0
    by_cases hk : k0 = k
    · rw [if_pos hk, if_pos (by rw [e1, hk])]
      exact ⟨by rw [e1], z, _, rfl, r, q2⟩
    · have hk' : ¬ p.1 = kOf k := by rw [e1]; exact fun z => hk (kOf_inj z)
      rw [if_neg hk, if_neg hk']
      exact ⟨by rw [e1], v, _, by rw [List.map_cons, ev1], r1, q2⟩
theorem put_V {K : PySem.W.Frag} {H : Hp} {k : DK} {d : D} {z : V} {ks : List DK} {vs : List D} {kvs : List (Key × V)} (e : kvs.map (·.1) = ks.map kOf) (h : RA K H vs (kvs.map (·.2))) (r : R K H d z) :
    (putK kvs (kOf k) z).map (·.1) = (dpk ks k).map kOf ∧ RA K H (dpv ks vs k d) ((putK kvs (kOf k) z).map (·.2)) := by
  unfold putK dpk dpv
  rw [kMem_V e]
  cases hm : kMem k ks with
  | true =>
    rw [if_pos rfl, if_pos rfl, if_pos rfl]
    exact dpv0_V r e h
  | false =>
    rw [if_neg (by decide), if_neg (by decide), if_neg (by decide), List.map_append, List.map_append, List.map_append, e]
    exact ⟨rfl, h.app (RA.one r)⟩
theorem put_len {kvs : List (Key × V)} {ks : List DK} (e : kvs.map (·.1) = ks.map kOf) : kvs.length = ks.length := by simpa using congrArg List.length e
theorem newDct {K : PySem.W.Frag} {P : Addr → Prop} {H : Hp} {p : Addr} {ks : List DK} {vs : List D} {kvs : List (Key × V)} (hd : ∀ a, P a → H a ≠ none) (h : H p = none) (e : kvs.map (·.1) = ks.map kOf) (r : RA K (mask H P) vs (kvs.map (·.2))) :
    NewRes K P H (fun b => P b ∨ b = p) (upd H p (.dK kvs)) (.own (.dct ks vs)) (.ref p) := by
  have np : ¬ P p := fun z => hd p z h
  refine ⟨same_new h, p, rfl, h, rfl, kvs, upd_same, e, RA.mono (mask_le fun a o h1 h2 => ⟨fun z => z.elim h1 fun e => ?_, same_new h a o h2⟩) _ _ r⟩
  subst e
  rw [h] at h2; cases h2
/-- the state while a dict is made at D0 -/
structure AtD (K : PySem.W.Frag) (P1 : Addr → Prop) (e1 : Ev) (σ : L2.St) (H1 : Hp) (D0 : Addr) (ks : List DK) (vs : List D) (P : Addr → Prop) (e : Ev) (H : Hp) : Prop where
  sim : Sim K P e σ H
  step : Step P1 e1 σ H1 P e σ H
  un : ∀ i : Nat, e1[i]? ≠ some Sl.un → e[i]? ≠ some Sl.un
  hP : P D0
  hn : ¬ OwnA e σ D0
  ho : ∃ kvs, H D0 = some (.dK kvs) ∧ kvs.map (·.1) = ks.map kOf ∧ RA K (mask H P) vs (kvs.map (·.2))
section
variable {K : PySem.W.Frag} {P1 P P4 : Addr → Prop} {e1 e e4 : Ev} {σ σ2 : L2.St} {H1 H H4 : Hp} {D0 : Addr} {ks : List DK} {vs : List D}
theorem AtD.start (S : Sim K P1 e1 σ H1) (n0 : H1 D0 = none) : AtD K P1 e1 σ H1 D0 [] [] (fun b => P1 b ∨ b = D0) e1 (upd H1 D0 (.dK [])) := by
  have n := newDct (K := K) (ks := []) (vs := []) (kvs := []) S.dom n0 rfl (show RA K _ [] [] from rfl)
  obtain ⟨S', st', r⟩ := n.fin S
  obtain ⟨a, ea, h1, h2, h3⟩ := r
  cases ea
  exact ⟨S', st', fun _ h => h, h1, h2, h3⟩
theorem AtD.aft (a : AtD K P1 e1 σ H1 D0 ks vs P e H) (A : Aft K P e σ H P4 e4 H4) : AtD K P1 e1 σ H1 D0 ks vs P4 e4 H4 := by
  have dD := a.sim.dom D0 a.hP
  obtain ⟨kvs, h1, h2, h3⟩ := a.ho
  refine ⟨A.sim, a.step.trans A.step, fun i h => A.un i (a.un i h), (A.step.priv D0 dD a.hn).mpr a.hP, fun z => ?_, kvs, A.step.keep D0 _ h1 a.hn, h2, RA.mono (A.step.masks a.sim) _ _ h3⟩
  rcases A.step.own D0 z with w | w
  · exact a.hn w
  · exact dD w
theorem AtD.next {vs0 : List Nat} (a : AtD K P1 e1 σ H1 D0 ks vs P e H) (S4 : Sim K P4 e4 σ2 H4) (hw : wipe σ2 vs0 = wipe σ vs0)
    (st4 : Step P (wipeE e vs0) (wipe σ vs0) H P4 e4 σ2 H4) (un4 : ∀ i : Nat, i ∉ vs0 → (wipeE e vs0)[i]? ≠ some Sl.un → e4[i]? ≠ some Sl.un) : AtD K P1 e1 σ H1 D0 ks vs P4 (back e4 e vs0) H4 := by
  obtain ⟨S5, st5⟩ := a.sim.unwipe S4 hw st4
  have hl : e4.length = e.length := by rw [S4.len, ← wipe_length σ2 vs0, hw, wipe_length]; exact a.sim.len.symm
  refine a.aft ⟨S5, st5, fun i h' => ?_⟩
  by_cases hi : i ∈ vs0
  · rw [back_in hl hi]; exact h'
  · rw [back_out hi]
    exact un4 i hi (by rw [wipeE_out hi]; exact h')
theorem AtD.write {ks' : List DK} {vs' : List D} {kvs' : List (Key × V)} (a : AtD K P1 e1 σ H1 D0 ks vs P e H) (n0 : H1 D0 = none) (h2 : kvs'.map (·.1) = ks'.map kOf) (h3 : RA K (mask H P) vs' (kvs'.map (·.2))) : AtD K P1 e1 σ H1 D0 ks' vs' P e (upd H D0 (.dK kvs')) := by
  have mm : Same (mask H P) (mask (upd H D0 (.dK kvs')) P) := mask_le fun b x h1 h2 => ⟨h1, by rw [upd_ne (show b ≠ D0 from fun z => h1 (by rw [z]; exact a.hP))]; exact h2⟩
  refine ⟨a.sim.priv a.hP a.hn, ⟨fun b o h n => ?_, a.step.priv, a.step.own, fun b h => ?_, a.step.io⟩, a.un, a.hP, a.hn, _, upd_same, h2, RA.mono mm _ _ h3⟩
  · rw [upd_ne (ne_of_none h n0)]
    exact a.step.keep b o h n
  · by_cases hb : b = D0
    · rw [hb, upd_same]; simp
    · rw [upd_ne hb]; exact a.step.there b h
theorem AtD.fin {P0 : Addr → Prop} {env : Ev} {H0 : Hp} (a : AtD K P1 e1 σ H1 D0 ks vs P e H) (A1 : Aft K P0 env σ H0 P1 e1 H1) (n0 : H1 D0 = none) :
    Aft K P0 env σ H0 P e H ∧ Res K env σ H0 P e H (.own (.dct ks vs)) (.ref D0) := by
  refine ⟨A1.trans ⟨a.sim, a.step, a.un⟩, ⟨D0, rfl, a.hP, a.hn, a.ho⟩, fun o b _ z => ?_⟩
  cases z
  refine .inl ?_
  cases e0 : H0 D0 with
  | none => rfl
  | some o => exact absurd n0 (A1.step.there D0 (by rw [e0]; simp))
end
section
variable {X : Cx} {pos : Pos}
abbrev PPr := List (TEp × TEp)
def flatP : PPr → TAp
  | [] => pNil
  | (tk, tv) :: r => pCons tk (pCons tv (flatP r))
def flatV : List (V × V) → List V
  | [] => []
  | (x, y) :: r => x :: y :: flatV r
def liftP (K : PySem.W.Frag) (t : PPr) : List (TE × TE) := t.map fun p => (liftE K p.1, liftE K p.2)
theorem pairs_ok {K : PySem.W.Frag} : ∀ (t : PPr) {σ : L2.St} {H : Hp} {Q : List (V × V) → Hp → Prop}, liftA K (flatP t) σ H (fun vs H' => ∀ ps, vs = flatV ps → Q ps H') → tPairs (liftP K t) σ H Q
  | [], σ, H, Q, ⟨P, env, K', S, t, k⟩ => k [] env [] P H t (Aft.refl S) rfl [] rfl
  | (tk, tv) :: r, σ, H, Q, ⟨P, env, K', S, t, k⟩ => by
    refine ⟨P, env, _, S, t, fun r1 e v P1 H1 t1 A1 R1 => ?_⟩
    obtain ⟨r1, P1, t1, n1, A1, R1⟩ := settle_ok A1 R1 t1
    refine ⟨P1, e, _, A1.sim, t1, fun r2 e2 v2 P2 H2 t2 A2 R2 => ?_⟩
    obtain ⟨r2, P2, t2, n2, A2, R2⟩ := settle_ok A2 R2 t2
    refine pairs_ok r ⟨P2, e2, _, A2.sim, t2, fun rs e3 vs P3 H3 t3 A3 R3 ps he => ?_⟩
    refine k _ e3 (v :: v2 :: vs) P3 H3 t3 (A1.trans (A2.trans A3)) ⟨v, _, rfl, n1, (R1.aft A1.sim A2 n1).aft A2.sim A3 n1, v2, vs, rfl, n2, R2.aft A2.sim A3 n2, R3⟩ ((v, v2) :: ps) (by rw [he]; rfl)
def toKv : List D → Option (List (DK × D))
  | [] => some []
  | k :: d :: r => match keyD k, toKv r with
    | some k, some r => some ((k, d) :: r)
    | _, _ => none
  | _ => none
theorem toKv_V {K : PySem.W.Frag} {Hs H : Hp} : ∀ {ds : List D} {ks : List (DK × D)} {ps : List V}, toKv ds = some ks → RA K Hs ds ps → ∃ kvs : List (Key × V), ps = flatV (kvs.map fun kv => (kV kv.1, kv.2)) ∧ kvs.map (·.1) = (ks.map (·.1)).map kOf ∧ RA K Hs (ks.map (·.2)) (kvs.map (·.2))
  | [], ks, ps, e, h => by
    cases e
    cases (show ps = [] from h)
    exact ⟨[], rfl, rfl, rfl⟩
  | [d], ks, ps, e, h => by cases e
  | k :: d :: r, ks, ps, e, h => by
    unfold toKv at e
    split at e
    · rename_i k' r' h1 h2
      cases e
      obtain ⟨v, _, rfl, q1, v2, vr, rfl, q2, q3⟩ := h
      obtain ⟨kvs, rfl, q4, q5⟩ := toKv_V (H := H) h2 q3
      have hk : v = kV (kOf k') := by
        cases k with
        | int i => cases h1; exact q1
        | str l => cases h1; exact q1
        | _ => cases h1
      exact ⟨(kOf k', v2) :: kvs, by rw [hk]; rfl, by simp [q4], _, _, rfl, q2, q5⟩
    · cases e
theorem flatV_inj : ∀ {a b : List (V × V)}, flatV a = flatV b → a = b
  | [], [], _ => rfl
  | [], (x, y) :: r, h => by cases h
  | (x, y) :: r, [], h => by cases h
  | (x, y) :: r, (x', y') :: r', h => by
    injection h with h1 h2
    injection h2 with h2 h3
    rw [h1, h2, flatV_inj h3]
theorem merge_V {K : PySem.W.Frag} {H : Hp} : ∀ {new : List (DK × D)} {more : List (Key × V)} {ks : List DK} {vs : List D} {kvs : List (Key × V)}, more.map (·.1) = (new.map (·.1)).map kOf → RA K H (new.map (·.2)) (more.map (·.2)) → kvs.map (·.1) = ks.map kOf → RA K H vs (kvs.map (·.2)) →
    (mergeK kvs more).map (·.1) = ((new.foldl (fun (a : List DK × List D) p => (dpk a.1 p.1, dpv a.1 a.2 p.1 p.2)) (ks, vs)).1).map kOf ∧ RA K H (new.foldl (fun (a : List DK × List D) p => (dpk a.1 p.1, dpv a.1 a.2 p.1 p.2)) (ks, vs)).2 ((mergeK kvs more).map (·.2))
  | [], [], ks, vs, kvs, _, _, e, h => ⟨e, h⟩
  | [], _ :: _, _, _, _, e, _, _, _ => by simp at e
  | _ :: _, [], _, _, _, e, _, _, _ => by simp at e
  | p :: new, q :: more, ks, vs, kvs, e1, h1, e, h => by
    rw [List.map_cons, List.map_cons, List.map_cons] at e1
    injection e1 with e2 e3
    obtain ⟨v, r', ev, r1, r2⟩ := h1
    rw [List.map_cons] at ev
    injection ev with ev1 ev2
    subst ev2
    subst ev1
    have u := put_V (k := p.1) e h r1
    rw [← e2] at u
    have m := merge_V e3 r2 u.1 u.2
    exact m
def dAll (new : List (DK × D)) : List DK × List D := new.foldl (fun (a : List DK × List D) p => (dpk a.1 p.1, dpv a.1 a.2 p.1 p.2)) ([], [])
def pDisp (t : PPr) : TEp := fun env K => flatP t env fun rs e => shAll e rs fun ds e2 => ∃ kvs, toKv ds = some kvs ∧ kvs.length ≤ 15 ∧ K (.own (.dct (dAll kvs).1 (dAll kvs).2)) e2
/-- pairs in a display -/
def PP (X : Cx) (pos : Pos) (keys : List (Option Expr)) (values : List Expr) (t : PPr) : Prop := PPs X pos keys values (liftP X.K t)
theorem pp_nil : PP X pos [] [] [] := pps_nil
theorem pp_cons {k v : Expr} {ks : List (Option Expr)} {vs : List Expr} {tk tv : TEp} {t : PPr} (hk : E X k tk) (hv : E X v tv) (hr : PP X pos ks vs t) : PP X pos (some k :: ks) (v :: vs) ((tk, tv) :: t) := pps_cons hk hv hr
theorem e_disp {keys : List (Option Expr)} {values : List Expr} {t : PPr} (h : PP X pos keys values t) (hall : keys.all (·.isSome) = true := by rfl) (hl : keys.length = values.length := by rfl) (h0 : keys ≠ [] := by exact fun z => nomatch z)
    (h15 : keys.length ≤ 15 := by decide) : E X (.Dict keys values pos) (pDisp t) := by
  refine peImp (pe_disp h hall hl h0 h15) fun σ H Q ⟨P, env, K', S, q, k⟩ => ?_
  intro p hp
  have a0 := AtD.start S hp
  refine pairs_ok t ⟨_, env, _, a0.sim, q, fun rs e vs P1 H1 t1 A1 R1 ps he => ?_⟩
  obtain ⟨ds, e2, P2, ⟨kvs, hk, hz, t2⟩, A2, X2⟩ := shAll_ok A1.sim R1 t1
  have a2 := a0.aft (A1.trans A2)
  obtain ⟨kw, g1, g2, g3⟩ := a2.ho
  have gk : kw = [] := by cases kw with
    | nil => rfl
    | cons _ _ => cases g2
  subst gk
  obtain ⟨kv, q1, q2, q3⟩ := toKv_V (H := H1) hk X2
  rw [he] at q1
  have q1 := flatV_inj q1
  refine ⟨g1, kv, q1, ?_, ?_⟩
  · have h2 := congrArg List.length q2
    simp at h2
    omega
  · have m := merge_V q2 q3 (ks := []) (vs := []) (kvs := []) rfl rfl
    have a3 := a2.write hp m.1 m.2
    obtain ⟨A4, R4⟩ := a3.fin (Aft.refl S) hp
    exact k _ e2 _ P2 _ t2 A4 R4
/-- {} -/
def pDNew : TEp := fun env K => K (.own (.dct [] [])) env
theorem e_dnew : E X (.Dict [] [] pos) pDNew := by
  refine peImp pe_dnewK fun σ H Q ⟨P, env, K', S, q, k⟩ => ?_
  intro p hp
  obtain ⟨A4, R4⟩ := (AtD.start S hp).fin (Aft.refl S) hp
  exact k _ env _ _ _ q A4 R4
/-- {k: v for ..} -/
def pDc (ti : TIp) (g : TGp) (tt : TTp) (tk tv : TEp) (vs : List Nat) : TEp := fun env K => ti env fun ds e1 => ∃ I : Nat → List DK → List D → Ev → Prop, I 0 [] [] e1 ∧
  (∀ k d ks ws e, ds[k]? = some d → I k ks ws e → g d (wipeE e vs) fun e2 => tt e2 fun b e3 => match b with
    | true => tk e3 fun rk e4 => rd e4 rk fun kd => tv e4 fun r e5 => share e5 r fun y e6 => ∃ x, keyD kd = some x ∧ ks.length < sizeLine ∧ I (k + 1) (dpk ks x) (dpv ks ws x y) (back e6 e vs)
    | false => I (k + 1) ks ws (back e3 e vs)) ∧ ∀ ks ws e, I ds.length ks ws e → K (.own (.dct ks ws)) e
theorem dc_it {J : It} {n : Nat} {G : Hp → Prop} {Y : Nat → Hp → V → Hp → Prop} (w : Walk J n G Y) {g : TG} {tt : TT} {tk tv : TE} {vs : List Nat} {σ : L2.St} {H1 : Hp} {D0 : Addr} {Qd : Hp → Prop} (Pv : Nat → Hp → Prop) (h0 : Pv 0 (upd H1 D0 (.dK []))) (hG : ∀ i H, i ≤ n → Pv i H → G H)
    (hs : ∀ i x H H', i < n → Pv i H → Y i H x H' → g x (wipe σ vs) H' fun σ2 H2 => wipe σ2 vs = wipe σ vs ∧ tt σ2 H2 fun b H3 =>
      if b = true then tk σ2 H3 fun y H4 => tv σ2 H4 fun z H5 => ∃ kvs k, y = kV k ∧ H5 D0 = some (.dK kvs) ∧ kvs.length < sizeLine ∧ Pv (i + 1) (upd H5 D0 (.dK (putK kvs k z))) else Pv (i + 1) H3) (hd : ∀ H, Pv n H → Qd H) :
    ∃ W : Nat → Nat → Hp → Prop, (∃ m, W 0 m (upd H1 D0 (.dK []))) ∧ ∀ i m H, W i m H →
      (J.stop i H ∧ Qd H) ∨ (J.go i H ∧ ∃ Nx : Hp → Prop, (∀ H', Nx H' → ∃ m', m' < m ∧ W (i + 1) m' H') ∧ ∀ x H', J.yld i H x H' → g x (wipe σ vs) H' fun σ2 H2 => wipe σ2 vs = wipe σ vs ∧ tt σ2 H2 fun b H3 =>
        if b = true then tk σ2 H3 fun y H4 => tv σ2 H4 fun z H5 => ∃ kvs k, y = kV k ∧ H5 D0 = some (.dK kvs) ∧ kvs.length < sizeLine ∧ Nx (upd H5 D0 (.dK (putK kvs k z))) else Nx H3) := by
  refine ⟨fun i m H => m = n - i ∧ i ≤ n ∧ Pv i H, ⟨n, by simp, Nat.zero_le _, h0⟩, ?_⟩
  rintro i m H ⟨rfl, hi, p⟩
  have q := hG i H hi p
  by_cases hlt : i < n
  · refine .inr ⟨w.goes i H hlt q, Pv (i + 1), fun H' p' => ⟨n - (i + 1), by omega, rfl, hlt, p'⟩, fun x H' y => hs i x H H' hlt p (w.yields i H x H' hlt q y)⟩
  · have e : i = n := by omega
    subst e
    exact .inl ⟨w.stops H q, hd H p⟩
variable {tg iter kx vx : Expr} {ifs : List Expr} {scope : Scope} {own : List (Str × Nat)} {ti : TIp} {g : TGp} {tt : TTp} {tk tv : TEp}
theorem pDc_ok {K : PySem.W.Frag} {us vs : List Nat} (hu : ∀ j ∈ us, j ∈ vs) {σ : L2.St} {H : Hp} {Q : VK} (h : liftE K (pDc ti g tt tk tv vs) σ H Q) : tDc (liftI K ti) (liftG K us g) (liftT K tt) (liftE K tk) (liftE K tv) vs σ H Q := by
  obtain ⟨P, env, K', S, t, k⟩ := h
  refine ⟨P, env, _, S, t, fun ds e1 P1 H1 J q A1 io => ?_⟩
  obtain ⟨I, i0, turn, done⟩ := q
  obtain ⟨Gd, Y, w, hG, hY⟩ := io
  intro D0 n0
  refine dc_it w (fun i H2 => ∃ ks ws P2 e2, I i ks ws e2 ∧ AtD K P1 e1 σ H1 D0 ks ws P2 e2 H2) ⟨[], [], _, e1, i0, AtD.start A1.sim n0⟩
    (fun i H2 _ ⟨ks, ws, P2, e2, i2, a⟩ => hG H2 fun b o z => (mask_same H2 P2) b o (a.step.masks A1.sim b o z)) (fun i x H2 H3 hi ⟨ks, ws, P2, e2, i2, a⟩ y => ?_) (fun H2 ⟨ks, ws, P2, e2, i2, a⟩ => ?_)
  · obtain ⟨d, ed, n⟩ := hY i x H2 H3 P2 hi y a.sim.dom (a.step.masks A1.sim)
    have S2w := a.sim.wiped vs
    obtain ⟨S3, st3, r3⟩ := n.fin S2w
    refine ⟨P2, _, d, _, S3, r3, turn i d ks ws e2 ed i2, fun e4 σ4 k4 S4 st4 f4 => ?_⟩
    have hw4 : wipe σ4 vs = wipe σ vs := wipe_same (fun j hj => (f4.1 j hj).1) (by rw [f4.2, wipe_length]) hu
    have un4 : ∀ j : Nat, j ∉ vs → (wipeE e2 vs)[j]? ≠ some Sl.un → e4[j]? ≠ some Sl.un := fun j hj q => by
      rw [(f4.1 j fun z => hj (hu j z)).2]; exact q
    have st34 := st3.trans st4
    refine ⟨hw4, P2, e4, _, S4, k4, fun b e5 P5 H5 k5 A5 => ?_⟩
    have stA := st34.trans A5.step
    have unA : ∀ j : Nat, j ∉ vs → (wipeE e2 vs)[j]? ≠ some Sl.un → e5[j]? ≠ some Sl.un := fun j hj q => A5.un j (un4 j hj q)
    cases b with
    | false => exact iteF ⟨ks, ws, P5, _, k5, a.next A5.sim hw4 stA unA⟩
    | true =>
      refine iteT ⟨P5, e5, _, A5.sim, k5, fun rk e6 vk P6 H6 k6 A6 R6 => ?_⟩
      obtain ⟨kd, k6, Xk⟩ := rd_ok A6.sim R6.1 k6
      refine ⟨P6, e6, _, A6.sim, k6, fun r e7 v P7 H7 k7 A7 R7 => ?_⟩
      obtain ⟨y, e8, P8, ⟨x, hx, hz, k8⟩, A8, r8⟩ := share_ok A7 R7 k7
      have A68 := A6.trans A8
      have a8 := a.next A68.sim hw4 (stA.trans A68.step) fun j hj q => A68.un j (unA j hj q)
      obtain ⟨kvs, g1, g2, g3⟩ := a8.ho
      have u := put_V (k := x) g2 g3 r8
      exact ⟨kvs, kOf x, keyD_V hx Xk, g1, by rw [put_len g2]; exact hz, dpk ks x, dpv ks ws x y, P8, _, k8, a8.write n0 u.1 u.2⟩
  · obtain ⟨A2, R2⟩ := a.fin A1 n0
    exact k _ e2 _ P2 H2 (done ks ws e2 i2) A2 R2
theorem e_dc (hc : X.calm = true) (hN : X.N.Nodup) {us : List Nat} (hi : I X tg iter ti) (ok : BlkOk X.N X.env.scope scope own) (hg : ∀ (s : Shared) (H : Hp) (C : Addr) (cl : List (Str × Addr)) (fp : List Addr), G (X.blk s H scope (compEnvC scope cl C X.env) fp) tg us g)
    (ht : ∀ (s : Shared) (H : Hp) (C : Addr) (cl : List (Str × Addr)) (fp : List Addr), TsP (X.blk s H scope (compEnvC scope cl C X.env) fp) ifs tt) (hk : ∀ (s : Shared) (H : Hp) (C : Addr) (cl : List (Str × Addr)) (fp : List Addr), E (X.blk s H scope (compEnvC scope cl C X.env) fp) kx tk)
    (he : ∀ (s : Shared) (H : Hp) (C : Addr) (cl : List (Str × Addr)) (fp : List Addr), E (X.blk s H scope (compEnvC scope cl C X.env) fp) vx tv)
    (hu : ∀ j ∈ us, j ∈ own.map (·.2) := by decide) (hs : ∀ x, foldedSetIterable iter X.env x = pure x := by intro _; rfl) : E X (.DictComp kx vx [⟨tg, iter, ifs, 0⟩] scope pos) (pDc ti g tt tk tv (own.map (·.2))) :=
  peImp (pe_dc (g := liftG X.K us g) (tt := liftT X.K tt) (tk := liftE X.K tk) (tv := liftE X.K tv) hc hN hi ok hg ht hk he hs) fun σ H Q h => pDc_ok hu h
end
end PL
namespace PL
open PySem PySem.Spec PyProof.Rows L2

/-! ### room for comparisons -/
theorem hu65 {A : Around} {k : Nat} (hr : Room k A) : A.units + 65 < cLine := by have := hr.un; omega
theorem hu64 {A : Around} {k : Nat} (hr : Room k A) : A.units + 64 < cLine := by have := hr.un; omega
theorem hu1 {A : Around} {k : Nat} (hr : Room k A) : A.units + 1 < cLine := by have := hr.un; omega

/-! ### what stands at the top: defs, constants -/
section
variable {P : Program} {w : World} {K : PySem.W.Frag} {mg : Str → Option Value} {base : Heap}
def Got (P : Program) (w : World) (K : PySem.W.Frag) (mg : Str → Option Value) (base : Heap) (k : Nat) (x : Str) (ps : List Str) (Sp : L2.Sp) : Prop :=
  ∃ f fd, FnOk P w K mg base CX0 k f fd ps Sp ∧ mg x = some (.ref f) ∧ PySem.W.keepIn K (.ref f) = true ∧ Binds K fd ps []
theorem Got.mono {j k : Nat} {x : Str} {ps : List Str} {Sp : L2.Sp} (g : Got P w K mg base j x ps Sp) (h : j ≤ k) : Got P w K mg base k x ps Sp :=
  let ⟨f, fd, h1, h2⟩ := g; ⟨f, fd, h1.mono h, h2⟩
theorem Got.imp {k : Nat} {x : Str} {ps : List Str} {Sp Sp' : L2.Sp} (g : Got P w K mg base k x ps Sp) (h : ∀ vs H Q E, Sp' vs H Q E → Sp vs H Q E) : Got P w K mg base k x ps Sp' :=
  let ⟨f, fd, h1, h2⟩ := g; ⟨f, fd, h1.imp h, h2⟩
/-- a def as it stands behind the top -/
def Top (K : PySem.W.Frag) (mg : Str → Option Value) (x : Str) (st : Stmt) (ps : List Str) : Prop := ∃ f fd, Fun K x x st f fd ∧ mg x = some (.ref f) ∧ Binds K fd ps []
/-- a def's body has the reading t -/
def Body (P : Program) (w : World) (K : PySem.W.Frag) (mg : Str → Option Value) (base : Heap) (k : Nat) (x : Str) (N : List Str) (st : Stmt) (t : TSp) : Prop :=
  ∀ (f : Addr) (cdv : Value) (A : Around) (outer : List Env) (s : Shared) (H : Hp) (E' : XK), Room k (A.deeper (envOfC x (defScope st) s.heap.objs.size f cdv)) →
    SS (cxOf CX0 P w K mg base N x (defScope st) f cdv A outer s H E').nox (defBody st) t
theorem got_fn {x : Str} {st : Stmt} {N ps : List Str} {k : Nat} {Sp : PSp} {t : TSp} (T : Top K mg x st ps) (Sc : FnScope N ps (defScope st)) (b : Body P w K mg base k x N st t) (len : ∀ ds K', Sp ds K' → ds.length = ps.length)
    (law : ∀ ds K', Sp ds K' → t { nx := fun _ => K' (.sh .non), rt := fun r _ => K' r } (startE N ds)) : Got P w K mg base (k + 1) x ps (spOf K Sp) :=
  let ⟨f, fd, F, hm, hb⟩ := T
  ⟨f, fd, fnP F Sc len fun cdv A outer s H E' hr => ⟨t, b f cdv A outer s H E' hr, law⟩, hm, F.kp, hb⟩
theorem got_fnI {x : Str} {st : Stmt} {N ps : List Str} {k : Nat} {Sp : PSi} {t : TSp} (T : Top K mg x st ps) (Sc : FnScope N ps (defScope st)) (b : Body P w K mg base k x N st t) (len : ∀ o ds K', Sp o ds K' → ds.length + 1 = ps.length)
    (law : ∀ o ds K', Sp o ds K' → t { nx := fun e => ioAt e fun o' => K' (.sh .non) o', rt := fun r e => ioAt e fun o' => K' r o' } (startI N o ds)) : Got P w K mg base (k + 1) x ps (spIo K Sp) :=
  let ⟨f, fd, F, hm, hb⟩ := T
  ⟨f, fd, fnI F Sc len fun cdv A outer s H E' hr => ⟨t, b f cdv A outer s H E' hr, law⟩, hm, F.kp, hb⟩
/-- a constant of the top -/
def Con (K : PySem.W.Frag) (mg : Str → Option Value) (x : Str) (d : D) : Prop := ∃ u v, mg x = some u ∧ RelV v u ∧ ∀ H, R K H d v
end
section
variable {X : Cx} {pos p : Pos} {e : Expr} {es : List Expr} {tA : TAp}
theorem e_con {x : Str} {d : D} (c : Con X.K X.mg x d) (hg : Gl X x) (hd : (x == ("__debug__" : Str)) = false := by decide) : E X (.Name x pos) (pC d) :=
  let ⟨u, v, h1, h2, h3⟩ := c; e_glob hg h1 h2 h3 hd
theorem e_fn {k : Nat} {ps : List Str} {Sp : PSp} {x : Str} (G : Got X.prog X.w X.K X.mg X.base k x ps (spOf X.K Sp)) (hr : Room k X.A) (hg : Gl X x)
    (ha : A X (e :: es) tA) (hdb : (x == ("__debug__" : Str)) = false := by decide) (he : starEach (e :: es) X.env = (false, eval e X.env) :: starEach es X.env := by rfl) (hpl : (backTo pos (starEach es X.env)).any (·.1) = false := by rfl) :
    E X (.Call (.Name x p) (e :: es) [] pos) (pCall Sp tA) := let ⟨f, fd, F, hm, hk, hb⟩ := G; e_call F hr hg hm hk hb ha hdb he hpl
theorem e_fn0 {k : Nat} {ps : List Str} {Sp : PSp} {x : Str} (G : Got X.prog X.w X.K X.mg X.base k x ps (spOf X.K Sp)) (hr : Room k X.A) (hg : Gl X x)
    (hdb : (x == ("__debug__" : Str)) = false := by decide) : E X (.Call (.Name x p) [] [] pos) (pCall Sp pNil) := let ⟨f, fd, F, hm, hk, hb⟩ := G; e_call0 F hr hg hm hk hb hdb
theorem e_fnI (i : Nat) {k : Nat} {ps : List Str} {Sp : PSi} {x y : Str} {py : Pos} (G : Got X.prog X.w X.K X.mg X.base k x ps (spIo X.K Sp)) (hr : Room k X.A) (hg : Gl X x)
    (ha : A X es tA) (hN : X.N[i]? = some y := by rfl) (hv : Vis X.env.scope y := by first | exact Or.inl rfl | exact Or.inr (Or.inl rfl) | exact Or.inr (Or.inr rfl)) (hd : (y == ("__debug__" : Str)) = false := by decide)
    (hcd : (y == ("__classdict__" : Str)) = false := by decide) (hdb : (x == ("__debug__" : Str)) = false := by decide) (he : starEach (.Name y py :: es) X.env = (false, eval (.Name y py) X.env) :: starEach es X.env := by rfl) (hpl : (backTo pos (starEach es X.env)).any (·.1) = false := by rfl) :
    E X (.Call (.Name x p) (.Name y py :: es) [] pos) (pCallI i Sp tA) := let ⟨f, fd, F, hm, hk, hb⟩ := G; e_callI i F hr hg hm hk hb ha hN hv hd hcd hdb he hpl
end

/-! ### the pool of draws -/
def Good (ns : List Int) : Prop := ns.length ≤ 63 ∧ ∀ z ∈ ns, Builtin.Int.intBits z ≤ 1048576
def PoolD (n : Nat) (l : List D) : Prop := ∃ (ns : List Int) (i r t : Int), l = [.lck (ns.map D.int), .int i, .int r, .int t] ∧ Good ns ∧ 0 ≤ i ∧ i ≤ n ∧ 0 ≤ t ∧ t ≤ n ∧ 0 ≤ r
theorem RA.cut4 {K : PySem.W.Frag} {H : Hp} {a b c d : D} {vs : List V} (h : RA K H [a, b, c, d] vs) : ∃ x y z u, vs = [x, y, z, u] ∧ R K H a x ∧ R K H b y ∧ R K H c z ∧ R K H d u := by
  obtain ⟨x, _, rfl, h1, y, _, rfl, h2, z, _, rfl, h3, u, _, rfl, h4, rfl⟩ := h
  exact ⟨x, y, z, u, rfl, h1, h2, h3, h4⟩
theorem pool_iff {K : PySem.W.Frag} {Hs : Hp} {ho : Option HO} {n : Nat} : OwnAt K Hs ho (.pool n) ↔ ∃ l, PoolD n l ∧ OwnAt K Hs ho (.lst l) := by
  constructor
  · rintro ⟨xs, h1, a, ns, i, r, t, rfl, h2, h3, h4, h5, h6, h7, h8, h9⟩
    exact ⟨_, ⟨ns, i, r, t, rfl, ⟨h3, h4⟩, h5, h6, h7, h8, h9⟩, _, h1, _, _, rfl, ⟨a, ns.map V.int, rfl, h2, RA.ints.mpr rfl⟩, _, _, rfl, rfl, _, _, rfl, rfl, _, _, rfl, rfl, rfl⟩
  · rintro ⟨l, ⟨ns, i, r, t, rfl, ⟨h3, h4⟩, h5, h6, h7, h8, h9⟩, xs, h1, h2⟩
    obtain ⟨x, y, z, u, rfl, ⟨a, xs, rfl, q1, q2⟩, q3, q4, q5⟩ := h2.cut4
    cases (show y = _ from q3)
    cases (show z = _ from q4)
    cases (show u = _ from q5)
    rw [RA.ints.mp q2] at q1
    exact ⟨_, h1, a, ns, i, r, t, rfl, q1, h3, h4, h5, h6, h7, h8, h9⟩
/-- a promise about pools, told of the four items -/
def viaL (Sp : PSi) : PSi := fun o ds K2 => ∃ l n K', o = .lst l ∧ PoolD n l ∧ Sp (.pool n) ds K' ∧ ∀ r l' n', PoolD n' l' → K' r (.pool n') → K2 r (.lst l')
theorem viaL_imp {K : PySem.W.Frag} {Sp Sp' : PSi} (hp : ∀ o ds K', Sp o ds K' → ∃ n, o = .pool n ∧ ∀ l, PoolD n l → Sp' (.lst l) ds fun r o' => ∃ l' n', o' = .lst l' ∧ PoolD n' l' ∧ K' r (.pool n')) {vs : List V} {H : Hp} {Q : VK} {E' : XK} (h : spIo K Sp vs H Q E') : spIo K Sp' vs H Q E' := by
  obtain ⟨P, p, vs', o, ds, K', e, dom, hP, ho, r, sp, k⟩ := h
  obtain ⟨n, rfl, hp⟩ := hp _ _ _ sp
  obtain ⟨l, pd, ho⟩ := pool_iff.mp ho
  refine ⟨P, p, vs', .lst l, ds, _, e, dom, hP, ho, r, hp l pd, fun r o' w P' H' ⟨l', n', e1, pd', k'⟩ nw => ?_⟩
  subst e1
  exact k r (.pool n') w P' H' k' ⟨nw.1, nw.2.1, nw.2.2.1, pool_iff.mpr ⟨l', pd', nw.2.2.2.1⟩, nw.2.2.2.2⟩
theorem poolNew_imp {K : PySem.W.Frag} {Sp Sp' : PSp} (hp : ∀ ds K', Sp ds K' → Sp' ds fun r => ∃ l n, r = .own (.lst l) ∧ PoolD n l ∧ K' (.own (.pool n))) {vs : List V} {H : Hp} {Q : VK} {E' : XK} (h : spOf K Sp vs H Q E') : spOf K Sp' vs H Q E' := by
  obtain ⟨P, ds, K', dom, r, sp, k⟩ := h
  refine ⟨P, ds, _, dom, r, hp _ _ sp, fun r w P' H' ⟨l, n, e, pd, k'⟩ nw => ?_⟩
  subst e
  refine k _ w P' H' k' ?_
  obtain ⟨h1, a, e, h2, h3, h4⟩ := nw
  exact ⟨h1, a, e, h2, h3, pool_iff.mpr ⟨l, pd, h4⟩⟩

/-! ### comprehensions as words that are not unfolded -/
@[irreducible] def qLc (ti : TIp) (g : TGp) (tt : TTp) (te : TEp) (vs : List Nat) : TEp := pLc ti g tt te vs
@[irreducible] def qDc (ti : TIp) (g : TGp) (tt : TTp) (tk tv : TEp) (vs : List Nat) : TEp := pDc ti g tt tk tv vs
theorem qLc_eq {ti : TIp} {g : TGp} {tt : TTp} {te : TEp} {vs : List Nat} : qLc ti g tt te vs = pLc ti g tt te vs := by unfold qLc; rfl
theorem qDc_eq {ti : TIp} {g : TGp} {tt : TTp} {tk tv : TEp} {vs : List Nat} : qDc ti g tt tk tv vs = pDc ti g tt tk tv vs := by unfold qDc; rfl
section
variable {X : Cx} {pos p : Pos} {tg elt kx vx iter : Expr} {ifs : List Expr} {scope : Scope} {own : List (Str × Nat)} {ti : TIp} {g : TGp} {tt : TTp} {te tk tv : TEp}
theorem e_lcq (hc : X.calm = true) (hN : X.N.Nodup) {us : List Nat} (hi : I X tg iter ti) (ok : BlkOk X.N X.env.scope scope own) (hg : ∀ (s : Shared) (H : Hp) (C : Addr) (cl : List (Str × Addr)) (fp : List Addr), G (X.blk s H scope (compEnvC scope cl C X.env) fp) tg us g)
    (ht : ∀ (s : Shared) (H : Hp) (C : Addr) (cl : List (Str × Addr)) (fp : List Addr), TsP (X.blk s H scope (compEnvC scope cl C X.env) fp) ifs tt) (he : ∀ (s : Shared) (H : Hp) (C : Addr) (cl : List (Str × Addr)) (fp : List Addr), E (X.blk s H scope (compEnvC scope cl C X.env) fp) elt te)
    (hu : ∀ j ∈ us, j ∈ own.map (·.2) := by decide) (hs : ∀ x, foldedSetIterable iter X.env x = pure x := by intro _; rfl) : E X (.ListComp elt [⟨tg, iter, ifs, 0⟩] scope pos) (qLc ti g tt te (own.map (·.2))) := by
  rw [qLc_eq]; exact e_lc hc hN hi ok hg ht he hu hs
theorem s_setLcq (i : Nat) {y : Str} {py spos : Pos} (hc : X.calm = true) (hN : X.N.Nodup) {us : List Nat} (hi : I X tg iter ti) (ok : BlkOk X.N X.env.scope scope own) (hg : ∀ (s : Shared) (H : Hp) (C : Addr) (cl : List (Str × Addr)) (fp : List Addr), G (X.blk s H scope (compEnvC scope cl C X.env) fp) tg us g)
    (ht : ∀ (s : Shared) (H : Hp) (C : Addr) (cl : List (Str × Addr)) (fp : List Addr), TsP (X.blk s H scope (compEnvC scope cl C X.env) fp) ifs tt) (he : ∀ (s : Shared) (H : Hp) (C : Addr) (cl : List (Str × Addr)) (fp : List Addr), E (X.blk s H scope (compEnvC scope cl C X.env) fp) elt te)
    (hsw : swapsWith (.ListComp elt [⟨tg, iter, ifs, 0⟩] scope pos) (some (.Name y py)) spos.line X.env = pure true) (hu : ∀ j ∈ us, j ∈ own.map (·.2) := by decide) (hy : X.N[i]? = some y := by rfl) (hyl : X.env.scope.names.lookup y = some .local := by rfl) (hs : ∀ x, foldedSetIterable iter X.env x = pure x := by intro _; rfl) :
    S X (.Assign [.Name y py] (.ListComp elt [⟨tg, iter, ifs, 0⟩] scope pos) spos) (sSet i (qLc ti g tt te (own.map (·.2)))) := by
  rw [qLc_eq]; exact s_setLc i hc hN hi ok hg ht he hsw hu hy hyl hs
theorem e_dcq (hc : X.calm = true) (hN : X.N.Nodup) {us : List Nat} (hi : I X tg iter ti) (ok : BlkOk X.N X.env.scope scope own) (hg : ∀ (s : Shared) (H : Hp) (C : Addr) (cl : List (Str × Addr)) (fp : List Addr), G (X.blk s H scope (compEnvC scope cl C X.env) fp) tg us g)
    (ht : ∀ (s : Shared) (H : Hp) (C : Addr) (cl : List (Str × Addr)) (fp : List Addr), TsP (X.blk s H scope (compEnvC scope cl C X.env) fp) ifs tt) (hk : ∀ (s : Shared) (H : Hp) (C : Addr) (cl : List (Str × Addr)) (fp : List Addr), E (X.blk s H scope (compEnvC scope cl C X.env) fp) kx tk)
    (he : ∀ (s : Shared) (H : Hp) (C : Addr) (cl : List (Str × Addr)) (fp : List Addr), E (X.blk s H scope (compEnvC scope cl C X.env) fp) vx tv)
    (hu : ∀ j ∈ us, j ∈ own.map (·.2) := by decide) (hs : ∀ x, foldedSetIterable iter X.env x = pure x := by intro _; rfl) : E X (.DictComp kx vx [⟨tg, iter, ifs, 0⟩] scope pos) (qDc ti g tt tk tv (own.map (·.2))) := by
  rw [qDc_eq]; exact e_dc hc hN hi ok hg ht hk he hu hs
end

/-! ### the law, from its start -/
theorem law_imp {K : PySem.W.Frag} {Sp : PSp} (hp : ∀ ns K', Good ns → K' (.sh (.bl true)) → Sp [.lck (ns.map D.int)] K') {H : Hp} {a : Addr} {ns : List Int} (hl : ns.length ≤ 63) (hb : ∀ z ∈ ns, Builtin.Int.intBits z ≤ 1048576) (hs : SqL K H a (ns.map V.int)) :
    spOf K Sp [.ref a] H (fun v _ => v = .bl true) fun _ _ _ => False := by
  have e : mask H (fun _ => False) = H := funext fun b => mask_yes fun z => z
  refine ⟨fun _ => False, [.lck (ns.map D.int)], fun r => r = .sh (.bl true), fun _ z => z.elim, ?_, hp ns _ ⟨hl, hb⟩ rfl, fun r w P' H' e1 nw => ?_⟩
  · rw [e]
    exact ⟨_, _, rfl, ⟨a, ns.map V.int, rfl, hs, RA.ints.mpr rfl⟩, rfl⟩
  · subst e1
    exact nw.2.2
end PL
namespace PL
/-! ### the seven defs that every law's text holds: their readings (printed by gen.py) -/
/-- _law_mixed(number, place); slots: 0:number 1:place 2:first 3:second 4:third -/
def r__law_mixed : TSp := (sSq (sSet 2 (pOp2 pMod (pCB bInt (pCons (pOp2 pAdd (pOp2 pAdd (pOp2 pMul (pVar 0) (pC (.int 410338673998125441398711))) (pOp2 pMul (pVar 1) (pC (.int 736418259301774563982039)))) (pC (.int 295075153872261839517363))) pNil)) (pC (.int 618970019642690137449562111))))
    (sSq (sSet 3 (pOp2 pMod (pCB bInt (pCons (pOp2 pAdd (pOp2 pAdd (pOp2 pMul (pVar 2) (pVar 2)) (pOp2 pMul (pC (.int 7)) (pVar 2))) (pVar 1)) pNil)) (pC (.int 162259276829213363391578010288127))))
    (sSq (sSet 4 (pOp2 pMod (pCB bInt (pCons (pOp2 pAdd (pOp2 pMul (pVar 3) (pVar 3)) (pVar 2)) pNil)) (pC (.int 618970019642690137449562111))))
    (sRet (pOp2 pAdd (pOp2 pMul (pVar 3) (pC (.int 618970019642690137449562111))) (pVar 4))))))
/-- _law_rest(script, place, turns); slots: 0:script 1:place 2:turns 3:number -/
def r__law_rest (P__law_mixed : PSp) : TSp := (sSq (sSet 3 (pC (.int 0)))
    (sSq (sIf (pTst (pOp2 pGt (pCB bLen (pCons (pVar 0) pNil)) (pC (.int 0)))) (sSet 3 (pCB bInt (pCons (pOp2 pIx (pVar 0) (pOp2 pMod (pCB bInt (pCons (pVar 1) pNil)) (pCB bLen (pCons (pVar 0) pNil)))) pNil))) sNx)
    (sSq (sIf (pTst (pOp2 pLt (pVar 3) (pC (.int 0)))) (sSet 3 (pOp2 pSub (pC (.int 1)) (pOp2 pMul (pC (.int 2)) (pVar 3)))) sNx)
    (sSq (sIf (pAnd (pTst (pOp2 pEq (pVar 2) (pC (.int 0)))) (pAnd (pTst (pOp2 pLt (pVar 1) (pCB bLen (pCons (pVar 0) pNil)))) (pTst (pOp2 pGe (pVar 3) (pOp2 pPow (pC (.int 10)) (pC (.int 18))))))) (sRet (pOp2 pSub (pVar 3) (pOp2 pPow (pC (.int 10)) (pC (.int 18))))) sNx)
    (sRet (pCall P__law_mixed (pCons (pOp2 pAdd (pVar 3) (pOp2 pMul (pVar 2) (pC (.int 1000003)))) (pCons (pVar 1) pNil))))))))
/-- _law_pool(script); slots: 0:script -/
def r__law_pool (P__law_rest : PSp) : TSp := (sRet (pLst (pCons (pVar 0) (pCons (pC (.int 0)) (pCons (pCall P__law_rest (pCons (pVar 0) (pCons (pC (.int 0)) (pCons (pC (.int 0)) pNil)))) (pCons (pC (.int 0)) pNil))))))
/-- _law_next(pool); slots: 0:pool -/
def r__law_next (P__law_rest : PSp) : TSp := (sSq (sSto 0 (pC (.int 1)) (pOp2 pAdd (pOp2 pIx (pVar 0) (pC (.int 1))) (pC (.int 1))))
    (sSq (sSto 0 (pC (.int 2)) (pCall P__law_rest (pCons (pOp2 pIx (pVar 0) (pC (.int 0))) (pCons (pOp2 pIx (pVar 0) (pC (.int 1))) (pCons (pC (.int 0)) pNil)))))
    (sSto 0 (pC (.int 3)) (pC (.int 0)))))
/-- _law_draw(pool, limit); slots: 0:pool 1:limit 2:value -/
def r__law_draw (P__law_rest : PSp) : TSp := (sSq (sIf (pTst (pOp2 pLe (pOp2 pIx (pVar 0) (pC (.int 2))) (pC (.int 1)))) (sSq (sSto 0 (pC (.int 3)) (pOp2 pAdd (pOp2 pIx (pVar 0) (pC (.int 3))) (pC (.int 1))))
    (sSto 0 (pC (.int 2)) (pCall P__law_rest (pCons (pOp2 pIx (pVar 0) (pC (.int 0))) (pCons (pOp2 pIx (pVar 0) (pC (.int 1))) (pCons (pOp2 pIx (pVar 0) (pC (.int 3))) pNil)))))) sNx)
    (sSq (sSet 2 (pOp2 pMod (pCB bInt (pCons (pOp2 pIx (pVar 0) (pC (.int 2))) pNil)) (pVar 1)))
    (sSq (sSto 0 (pC (.int 2)) (pOp2 pFdiv (pCB bInt (pCons (pOp2 pIx (pVar 0) (pC (.int 2))) pNil)) (pVar 1)))
    (sRet (pVar 2)))))
/-- _law_pick(pool, options); slots: 0:pool 1:options -/
def r__law_pick (P__law_draw : PSi) : TSp := (sRet (pOp2 pIx (pVar 1) (pCallI 0 P__law_draw (pCons (pCB bLen (pCons (pVar 1) pNil)) pNil))))
/-- _law_same(answer, due); slots: 0:answer 1:due 2:key 3:k -/
def r__law_same (P__law_same : PSp) : TSp := (sSq (sIf (pTru (pIsi "dict" (pVar 1))) (sSq (sIf (pOr (pNot (pTru (pIsi "dict" (pVar 0)))) (pTst (pOp2 pNe (pCB bLen (pCons (pVar 0) pNil)) (pCB bLen (pCons (pVar 1) pNil))))) (sRet (pC (.bl false))) sNx)
    (sRet (pCB bAll (pCons (qLc (pIt (pVar 1)) (gNm 2) tYs (pAndV (pOp2 (pIn false) (pVar 2) (pVar 0)) (pCall P__law_same (pCons (pOp2 pIx (pVar 0) (pVar 2)) (pCons (pOp2 pIx (pVar 1) (pVar 2)) pNil)))) [2]) pNil)))) sNx)
    (sSq (sIf (pOr (pTru (pIsi "list" (pVar 1))) (pTru (pIsi "tuple" (pVar 1)))) (sSq (sIf (pOr (pTst (pOp2 pNe (pIsi "list" (pVar 1)) (pIsi "list" (pVar 0)))) (pTst (pOp2 pNe (pIsi "tuple" (pVar 1)) (pIsi "tuple" (pVar 0))))) (sRet (pC (.bl false))) sNx)
    (sRet (pAndV (pOp2 pEq (pCB bLen (pCons (pVar 0) pNil)) (pCB bLen (pCons (pVar 1) pNil))) (pCB bAll (pCons (qLc (pRng1 (pCons (pCB bLen (pCons (pVar 1) pNil)) pNil)) (gNm 3) tYs (pCall P__law_same (pCons (pOp2 pIx (pVar 0) (pVar 3)) (pCons (pOp2 pIx (pVar 1) (pVar 3)) pNil))) [3]) pNil))))) sNx)
    (sSq (sIf (pTru (pIsi "str" (pVar 1))) (sRet (pAndV (pIsi "str" (pVar 0)) (pOp2 pEq (pVar 0) (pVar 1)))) sNx)
    (sSq (sIf (pOr (pTst (pOp2 (pIs false) (pVar 1) (pC .non))) (pOr (pTst (pOp2 (pIs false) (pVar 1) (pC (.bl true)))) (pTst (pOp2 (pIs false) (pVar 1) (pC (.bl false)))))) (sRet (pOrV (pAndV (pOp2 (pIs false) (pVar 1) (pC .non)) (pOp2 (pIs false) (pVar 0) (pC .non))) (pOrV (pAndV (pOp2 (pIs false) (pVar 1) (pC (.bl true))) (pOp2 (pIs false) (pVar 0) (pC (.bl true)))) (pAndV (pOp2 (pIs false) (pVar 1) (pC (.bl false))) (pOp2 (pIs false) (pVar 0) (pC (.bl false))))))) sNx)
    (sRet (pAndV (pIsi "int" (pVar 0)) (pAndV (pNotV (pIsi "bool" (pVar 0))) (pOp2 pEq (pVar 0) (pVar 1)))))))))
end PL
namespace PL
def bm (b : Bool) (p q : Prop) : Prop := match b with
  | true => p
  | false => q
theorem ifB {b : Bool} {p q : Prop} (h1 : b = true → p) (h2 : b = false → q) : bm b p q := by
  cases b with
  | true => exact h1 rfl
  | false => exact h2 rfl
theorem ifD {c : Prop} {inst : Decidable c} {p q : Prop} (h1 : c → p) (h2 : ¬ c → q) : bm (@decide c inst) p q := by
  by_cases h : c
  · rw [decide_eq_true h]; exact h1 h
  · rw [decide_eq_false h]; exact h2 h
theorem log2_lt {n k : Nat} (h : n < 2 ^ (k + 1)) : n.log2 < k + 1 := by
  by_cases h0 : n = 0
  · subst h0; simp [Nat.log2_zero]
  · exact (Nat.log2_lt h0).mpr h
theorem fits_of {i j : Int} {a b : Nat} (h1 : i.natAbs.log2 < a) (h2 : j.natAbs < 2 ^ (b + 1)) (h : a + b < 99999999 := by decide) : MulFits i j := by
  have h3 := log2_lt h2
  exact .inr (.inr (by omega))
theorem fits_of' {i j : Int} {a b : Nat} (h1 : i.natAbs < 2 ^ (a + 1)) (h2 : j.natAbs < 2 ^ (b + 1)) (h : a + b < 99999998 := by decide) : MulFits i j := by
  have h3 := log2_lt h2
  have h4 := log2_lt h1
  exact .inr (.inr (by omega))
def P__law_mixed : PSp := fun ds K => ∃ a p : Int, ds = [.int a, .int p] ∧ a.natAbs.log2 < 10000000 ∧ p.natAbs < 2 ^ 62 ∧ ∀ v : Int, 0 ≤ v → K (.sh (.int v))
theorem fmod_nn {a b : Int} (h : 0 < b) : 0 ≤ a.fmod b := by
  rw [Int.fmod_eq_emod_of_nonneg a (Int.le_of_lt h)]; exact Int.emod_nonneg a (by omega)
theorem fmod_lt' {a b : Int} (h : 0 < b) : a.fmod b < b := by
  rw [Int.fmod_eq_emod_of_nonneg a (Int.le_of_lt h)]; exact Int.emod_lt_of_pos a h
theorem law_mixed : ∀ ds K', P__law_mixed ds K' → r__law_mixed { nx := fun _ => K' (.sh .non), rt := fun r _ => K' r } (startE ["number", "place", "first", "second", "third"] ds) := by
  rintro ds K' ⟨a, p, rfl, ha, hp, k⟩
  refine And.intro (fits_of (b := 100) ha (by decide)) (And.intro (fits_of' (a := 61) (b := 100) hp (by decide)) (And.intro (by decide) ?_))
  generalize hf : Int.fmod (a * 410338673998125441398711 + p * 736418259301774563982039 + 295075153872261839517363) 618970019642690137449562111 = f
  have f1 : 0 ≤ f := hf ▸ fmod_nn (by decide)
  have f2 : f < 618970019642690137449562111 := hf ▸ fmod_lt' (by decide)
  refine And.intro (fits_of' (a := 100) (b := 100) (by omega) (by omega)) (And.intro (.inl (by decide)) (And.intro (by decide) ?_))
  generalize hg : Int.fmod (f * f + 7 * f + p) 162259276829213363391578010288127 = g
  have g1 : 0 ≤ g := hg ▸ fmod_nn (by decide)
  have g2 : g < 162259276829213363391578010288127 := hg ▸ fmod_lt' (by decide)
  refine And.intro (fits_of' (a := 110) (b := 110) (by omega) (by omega)) (And.intro (by decide) ?_)
  generalize hh : Int.fmod (g * g + f) 618970019642690137449562111 = h
  have h1 : 0 ≤ h := hh ▸ fmod_nn (by decide)
  refine And.intro (fits_of' (a := 110) (b := 100) (by omega) (by decide)) ?_
  exact k (g * 618970019642690137449562111 + h) (by omega)

theorem bits_nb {z : Int} {N : Nat} (h : PySem.Builtin.Int.intBits z ≤ N) : z.natAbs < 2 ^ N := by
  unfold PySem.Builtin.Int.intBits at h
  split at h
  · rename_i h0
    have : z = 0 := by simpa using h0
    subst this
    exact Nat.two_pow_pos N
  · rename_i h0
    have hz : z.natAbs ≠ 0 := by
      have : z ≠ 0 := by simpa using h0
      omega
    exact (Nat.log2_lt hz).mp (by omega)
theorem atI_nn {ds : List D} {i : Int} {d : D} (h0 : 0 ≤ i) (h : ds[i.toNat]? = some d) : L2.atI ds i = some d := by
  have := L2.atI_nat h
  rw [Int.toNat_of_nonneg h0] at this
  exact this
def P__law_rest : PSp := fun ds K => ∃ (ns : List Int) (p t : Int), ds = [.lck (ns.map D.int), .int p, .int t] ∧ Good ns ∧ 0 ≤ p ∧ p < 2 ^ 61 ∧ 0 ≤ t ∧ t < 2 ^ 61 ∧ ∀ v : Int, 0 ≤ v → K (.sh (.int v))
theorem rest_bound {z t : Int} (h : z.natAbs < 2 ^ 1048576) (h1 : 0 ≤ t) (h2 : t < 2 ^ 61) : (z + t * 1000003).natAbs.log2 < 10000000 ∧ (1 - 2 * z + t * 1000003).natAbs.log2 < 10000000 := by
  have e : (2 : Nat) ^ 100 ≤ 2 ^ 1048576 := Nat.pow_le_pow_right (by decide) (by decide)
  have e2 : (2 : Nat) ^ 1048579 = 8 * 2 ^ 1048576 := by
    rw [show (1048579 : Nat) = 1048576 + 3 from rfl, Nat.pow_add]; omega
  have e3 : (2 : Nat) ^ 100 = 1267650600228229401496703205376 := by decide
  have e4 : (2 : Int) ^ 61 = 2305843009213693952 := by decide
  rw [e4] at h2
  rw [e3] at e
  generalize (2 : Nat) ^ 1048576 = B at *
  have k1 : (z + t * 1000003).natAbs < 2 ^ 1048579 := by omega
  have k2 : (1 - 2 * z + t * 1000003).natAbs < 2 ^ 1048579 := by omega
  exact ⟨Nat.lt_trans (log2_lt (k := 1048578) k1) (by decide), Nat.lt_trans (log2_lt (k := 1048578) k2) (by decide)⟩
theorem law_rest : ∀ ds K', P__law_rest ds K' → r__law_rest P__law_mixed { nx := fun _ => K' (.sh .non), rt := fun r _ => K' r } (startE ["script", "place", "turns", "number"] ds) := by
  rintro ds K' ⟨ns, p, t, rfl, ⟨hl, hb⟩, p0, p1, t0, t1, k⟩
  -- after the first number
  have after : ∀ z : Int, z.natAbs < 2 ^ 1048576 → (sSq (sIf (pTst (pOp2 pLt (pVar 3) (pC (.int 0)))) (sSet 3 (pOp2 pSub (pC (.int 1)) (pOp2 pMul (pC (.int 2)) (pVar 3)))) sNx)
    (sSq (sIf (pAnd (pTst (pOp2 pEq (pVar 2) (pC (.int 0)))) (pAnd (pTst (pOp2 pLt (pVar 1) (pCB bLen (pCons (pVar 0) pNil)))) (pTst (pOp2 pGe (pVar 3) (pOp2 pPow (pC (.int 10)) (pC (.int 18))))))) (sRet (pOp2 pSub (pVar 3) (pOp2 pPow (pC (.int 10)) (pC (.int 18))))) sNx)
    (sRet (pCall P__law_mixed (pCons (pOp2 pAdd (pVar 3) (pOp2 pMul (pVar 2) (pC (.int 1000003)))) (pCons (pVar 1) pNil)))))) { nx := fun _ => K' (.sh .non), rt := fun r _ => K' r } [.sh (.lck (ns.map D.int)), .sh (.int p), .sh (.int t), .sh (.int z)] := by
    intro z hz
    obtain ⟨b1, b2⟩ := rest_bound hz t0 t1
    have fin : ∀ y : Int, (y + t * 1000003).natAbs.log2 < 10000000 → (sSq (sIf (pAnd (pTst (pOp2 pEq (pVar 2) (pC (.int 0)))) (pAnd (pTst (pOp2 pLt (pVar 1) (pCB bLen (pCons (pVar 0) pNil)))) (pTst (pOp2 pGe (pVar 3) (pOp2 pPow (pC (.int 10)) (pC (.int 18))))))) (sRet (pOp2 pSub (pVar 3) (pOp2 pPow (pC (.int 10)) (pC (.int 18))))) sNx)
    (sRet (pCall P__law_mixed (pCons (pOp2 pAdd (pVar 3) (pOp2 pMul (pVar 2) (pC (.int 1000003)))) (pCons (pVar 1) pNil))))) { nx := fun _ => K' (.sh .non), rt := fun r _ => K' r } [.sh (.lck (ns.map D.int)), .sh (.int p), .sh (.int t), .sh (.int y)] := by
      intro y hy
      have go : (sRet (pCall P__law_mixed (pCons (pOp2 pAdd (pVar 3) (pOp2 pMul (pVar 2) (pC (.int 1000003)))) (pCons (pVar 1) pNil)))) { nx := fun _ => K' (.sh .non), rt := fun r _ => K' r } [.sh (.lck (ns.map D.int)), .sh (.int p), .sh (.int t), .sh (.int y)] := by
        refine And.intro (.inr (.inl (by decide))) ⟨_, _, rfl, hy, by omega, fun v hv => k v hv⟩
      refine And.intro (And.intro trivial trivial) ?_
      refine ifB (fun _ => ?_) (fun _ => go)
      refine ifD (fun _ => ?_) (fun _ => go)
      refine And.intro (by unfold L2.CPow; decide) ?_
      refine ifD (fun h => ?_) (fun _ => go)
      refine And.intro (by unfold L2.CPow; decide) ?_
      refine k _ ?_
      have h' : (10 : Int) ^ 18 ≤ y := h
      show 0 ≤ y - (10 : Int) ^ 18
      omega
    refine ifD (fun _ => ?_) (fun _ => fin z b1)
    refine And.intro (.inl (by decide)) ?_
    exact fin _ b2
  refine ifD (fun h => ?_) (fun _ => after 0 (Nat.two_pow_pos _))
  have hn : 0 < (ns.length : Int) := by
    have h' : (0 : Int) < ((ns.map D.int).length : Nat) := h
    rwa [List.length_map] at h'
  refine And.intro ?_ ?_
  · rw [List.length_map]; omega
  · have e1 : 0 ≤ p.fmod ((ns.map D.int).length : Nat) := fmod_nn (by rw [List.length_map]; exact hn)
    have e2 : p.fmod ((ns.map D.int).length : Nat) < ns.length := by
      have := fmod_lt' (a := p) (b := ((ns.map D.int).length : Nat)) (by rw [List.length_map]; exact hn)
      rw [List.length_map] at this ⊢
      exact this
    have hi : (p.fmod ((ns.map D.int).length : Nat)).toNat < ns.length := by omega
    refine ⟨_, .int ns[(p.fmod ((ns.map D.int).length : Nat)).toNat], rfl, atI_nn e1 ?_, ?_⟩
    · rw [List.getElem?_map, List.getElem?_eq_getElem hi]; rfl
    · exact after _ (bits_nb (hb _ (List.getElem_mem hi)))
end PL
namespace PL
def P__law_pool : PSp := fun ds K => ∃ ns : List Int, ds = [.lck (ns.map D.int)] ∧ Good ns ∧ K (.own (.pool 0))
def P_poolL : PSp := fun ds K => ∃ ns : List Int, ds = [.lck (ns.map D.int)] ∧ Good ns ∧ ∀ v : Int, 0 ≤ v → K (.own (.lst [.lck (ns.map D.int), .int 0, .int v, .int 0]))
theorem law_poolL : ∀ ds K', P_poolL ds K' → r__law_pool P__law_rest { nx := fun _ => K' (.sh .non), rt := fun r _ => K' r } (startE ["script"] ds) := by
  rintro ds K' ⟨ns, rfl, hg, k⟩
  refine ⟨ns, 0, 0, rfl, hg, by omega, by decide, by omega, by decide, fun v hv => ?_⟩
  exact ⟨by show 4 ≤ _; decide, k v hv⟩
theorem pool_imp : ∀ ds K', P__law_pool ds K' → P_poolL ds fun r => ∃ l n, r = .own (.lst l) ∧ PoolD n l ∧ K' (.own (.pool n)) := by
  rintro ds K' ⟨ns, rfl, hg, k⟩
  exact ⟨ns, rfl, hg, fun v hv => ⟨_, 0, rfl, ⟨ns, 0, v, 0, rfl, hg, by omega, by omega, by omega, by omega, hv⟩, k⟩⟩
def P__law_next : PSi := fun o ds K => ∃ n, o = .pool n ∧ ds = [] ∧ n < 2 ^ 60 ∧ K (.sh .non) (.pool (n + 1))
def P_nextL : PSi := fun o ds K => ∃ l n, o = .lst l ∧ PoolD n l ∧ ds = [] ∧ n < 2 ^ 60 ∧ ∀ l', PoolD (n + 1) l' → K (.sh .non) (.lst l')
theorem law_nextL : ∀ o ds K', P_nextL o ds K' → r__law_next P__law_rest { nx := fun e => ioAt e fun o' => K' (.sh .non) o', rt := fun r e => ioAt e fun o' => K' r o' } (startI ["pool"] o ds) := by
  rintro o ds K' ⟨l, n, rfl, ⟨ns, i, r, t, rfl, hg, h1, h2, h3, h4, h5⟩, rfl, hn, k⟩
  have hn' : (n : Int) < 2 ^ 60 := by exact_mod_cast hn
  refine ⟨1, .int i, rfl, rfl, 1, 1, rfl, rfl, ?_⟩
  refine ⟨0, .lck (ns.map D.int), rfl, rfl, 1, .int (i + 1), rfl, rfl, ns, i + 1, 0, rfl, hg, by omega, by omega, by omega, by decide, fun v hv => ?_⟩
  exact ⟨2, 2, rfl, rfl, 3, 3, rfl, rfl, k _ ⟨ns, i + 1, v, 0, rfl, hg, by omega, by omega, by omega, by omega, hv⟩⟩
theorem next_imp : ∀ o ds K', P__law_next o ds K' → ∃ n, o = .pool n ∧ ∀ l, PoolD n l → P_nextL (.lst l) ds fun r o' => ∃ l' n', o' = .lst l' ∧ PoolD n' l' ∧ K' r (.pool n') := by
  rintro o ds K' ⟨n, rfl, rfl, hn, k⟩
  exact ⟨n, rfl, fun l hl => ⟨l, n, rfl, hl, rfl, hn, fun l' hl' => ⟨l', n + 1, rfl, hl', k⟩⟩⟩
def P__law_draw : PSi := fun o ds K => ∃ (n : Nat) (m : Int), o = .pool n ∧ ds = [.int m] ∧ 0 < m ∧ m < 2 ^ 30 ∧ n < 2 ^ 60 ∧ ∀ v : Int, 0 ≤ v → v < m → K (.sh (.int v)) (.pool (n + 1))
def P_drawL : PSi := fun o ds K => ∃ (l : List D) (n : Nat) (m : Int), o = .lst l ∧ PoolD n l ∧ ds = [.int m] ∧ 0 < m ∧ m < 2 ^ 30 ∧ n < 2 ^ 60 ∧ ∀ (v : Int) l', 0 ≤ v → v < m → PoolD (n + 1) l' → K (.sh (.int v)) (.lst l')
theorem law_drawL : ∀ o ds K', P_drawL o ds K' → r__law_draw P__law_rest { nx := fun e => ioAt e fun o' => K' (.sh .non) o', rt := fun r e => ioAt e fun o' => K' r o' } (startI ["pool", "limit", "value"] o ds) := by
  rintro o ds K' ⟨l, n, m, rfl, ⟨ns, i, r, t, rfl, hg, h1, h2, h3, h4, h5⟩, rfl, m0, m1, hn, k⟩
  have hn' : (n : Int) < 2 ^ 60 := by exact_mod_cast hn
  have m2 : m.natAbs < 1073741824 := by
    have : (2 : Int) ^ 30 = 1073741824 := by decide
    omega
  have go : ∀ r t : Int, 0 ≤ r → 0 ≤ t → t ≤ n + 1 → (sSq (sSet 2 (pOp2 pMod (pCB bInt (pCons (pOp2 pIx (pVar 0) (pC (.int 2))) pNil)) (pVar 1)))
    (sSq (sSto 0 (pC (.int 2)) (pOp2 pFdiv (pCB bInt (pCons (pOp2 pIx (pVar 0) (pC (.int 2))) pNil)) (pVar 1)))
    (sRet (pVar 2)))) { nx := fun e => ioAt e fun o' => K' (.sh .non) o', rt := fun r e => ioAt e fun o' => K' r o' } [.io (.lst [.lck (ns.map D.int), .int i, .int r, .int t]), .sh (.int m), .un] := by
    intro r t h5 h3 h4
    refine ⟨2, .int r, rfl, rfl, by omega, 2, .int r, rfl, rfl, ⟨by omega, .inl m2⟩, 2, 2, rfl, rfl, ?_⟩
    refine k (r.fmod m) _ (fmod_nn m0) (fmod_lt' m0) ⟨ns, i, r.fdiv m, t, rfl, hg, h1, by omega, h3, by omega, ?_⟩
    rw [Int.fdiv_eq_ediv_of_nonneg r (by omega)]
    exact Int.ediv_nonneg h5 (by omega)
  refine ⟨2, .int r, rfl, rfl, ifD (fun _ => ?_) (fun _ => go r t h5 h3 (by omega))⟩
  refine ⟨3, .int t, rfl, rfl, 3, 3, rfl, rfl, 0, .lck (ns.map D.int), rfl, rfl, 1, .int i, rfl, rfl, 3, .int (t + 1), rfl, rfl, ns, i, t + 1, rfl, hg, h1, by omega, by omega, by omega, fun v hv => ?_⟩
  exact ⟨2, 2, rfl, rfl, go v (t + 1) hv (by omega) (by omega)⟩
theorem draw_imp : ∀ o ds K', P__law_draw o ds K' → ∃ n, o = .pool n ∧ ∀ l, PoolD n l → P_drawL (.lst l) ds fun r o' => ∃ l' n', o' = .lst l' ∧ PoolD n' l' ∧ K' r (.pool n') := by
  rintro o ds K' ⟨n, m, rfl, rfl, m0, m1, hn, k⟩
  exact ⟨n, rfl, fun l hl => ⟨l, n, m, rfl, hl, rfl, m0, m1, hn, fun v l' h1 h2 hl' => ⟨l', n + 1, rfl, hl', k v h1 h2⟩⟩⟩
def P__law_pick : PSi := fun o ds K => ∃ (n : Nat) (xs : List D), o = .pool n ∧ (ds = [.lst xs] ∨ ds = [.tup xs] ∨ ds = [.lck xs] ∨ ∃ l : List Nat, ds = [.str l] ∧ xs = l.map fun c => .str [c]) ∧ 0 < xs.length ∧ xs.length < 2 ^ 20 ∧ n < 2 ^ 60 ∧ ∀ d ∈ xs, K (.sh d) (.pool (n + 1))
theorem law_pick : ∀ o ds K', P__law_pick o ds K' → r__law_pick P__law_draw { nx := fun e => ioAt e fun o' => K' (.sh .non) o', rt := fun r e => ioAt e fun o' => K' r o' } (startI ["pool", "options"] o ds) := by
  rintro o ds K' ⟨n, xs, rfl, hd, h0, h1, hn, k⟩
  have e20 : (2 : Nat) ^ 20 = 1048576 := by decide
  have i1 : (xs.length : Int) < 2 ^ 30 := by
    have : (2 : Int) ^ 30 = 1073741824 := by decide
    omega
  have at_ : ∀ v : Int, 0 ≤ v → v < xs.length → ∃ d, L2.atI xs v = some d ∧ d ∈ xs := fun v v0 v1 => by
    have hv : v.toNat < xs.length := by omega
    exact ⟨xs[v.toNat], atI_nn v0 (List.getElem?_eq_getElem hv), List.getElem_mem hv⟩
  rcases hd with rfl | rfl | rfl | ⟨l, rfl, rfl⟩
  · refine ⟨n, xs.length, rfl, rfl, by omega, i1, hn, fun v v0 v1 => ?_⟩
    obtain ⟨d, e, m⟩ := at_ v v0 v1
    exact ⟨v, d, rfl, e, k d m⟩
  · refine ⟨n, xs.length, rfl, rfl, by omega, i1, hn, fun v v0 v1 => ?_⟩
    obtain ⟨d, e, m⟩ := at_ v v0 v1
    exact ⟨v, d, rfl, e, k d m⟩
  · refine ⟨n, xs.length, rfl, rfl, by omega, i1, hn, fun v v0 v1 => ?_⟩
    obtain ⟨d, e, m⟩ := at_ v v0 v1
    exact ⟨v, d, rfl, e, k d m⟩
  · rw [List.length_map] at h0 h1 i1 at_
    have hz : l.length ≤ PySem.sizeLine := Nat.le_of_lt (Nat.lt_of_lt_of_le h1 (by decide))
    refine ⟨hz, n, l.length, rfl, rfl, by omega, i1, hn, fun v v0 v1 => ?_⟩
    have hv : v.toNat < l.length := by omega
    have e := L2.atI_nat (List.getElem?_eq_getElem hv)
    rw [Int.toNat_of_nonneg v0] at e
    exact ⟨v, l[v.toNat], rfl, hz, e, k _ (List.mem_map.mpr ⟨_, List.getElem_mem hv, rfl⟩)⟩
/-! ### _law_same -/
mutual
/-- what _law_same answers, of what holds no dict -/
def sameD : D → D → Bool
  | a, .lst es => match a with
    | .lst ds => sameA ds es
    | .lck ds => sameA ds es
    | _ => false
  | a, .lck es => match a with
    | .lst ds => sameA ds es
    | .lck ds => sameA ds es
    | _ => false
  | a, .tup es => match a with
    | .tup ds => sameA ds es
    | _ => false
  | a, .str l => match a with
    | .str m => decide (m = l)
    | _ => false
  | a, .non => match a with
    | .non => true
    | _ => false
  | a, .bl b => match a with
    | .bl c => c == b
    | _ => false
  | a, .int i => match a with
    | .int j => decide (j = i)
    | _ => false
  | _, .dct _ _ => false
def sameA : List D → List D → Bool
  | [], [] => true
  | d :: ds, e :: es => sameD d e && sameA ds es
  | _, _ => false
end
end PL
namespace PL
/-- no dict within, nested at most n deep, no list too long -/
def Ok : Nat → D → Prop
  | _, .non => True
  | _, .bl _ => True
  | _, .int _ => True
  | _, .str _ => True
  | n + 1, .lst ds => ds.length < 16777216 ∧ ∀ d ∈ ds, Ok n d
  | n + 1, .lck ds => ds.length < 16777216 ∧ ∀ d ∈ ds, Ok n d
  | n + 1, .tup ds => ds.length < 16777216 ∧ ∀ d ∈ ds, Ok n d
  | _, _ => False
theorem sameA_all : ∀ (ds es : List D), ds.length = es.length → ((List.range es.length).map fun i => sameD (ds.getD i .non) (es.getD i .non)).all id = sameA ds es
  | [], [], _ => by simp [sameA]
  | [], _ :: _, h => by simp at h
  | _ :: _, [], h => by simp at h
  | d :: ds, e :: es, h => by
    have ih := sameA_all ds es (by simpa using h)
    rw [sameA, ← ih, List.length_cons, List.range_succ_eq_map, List.map_cons, List.map_map, List.all_cons]
    rfl
theorem sameA_len : ∀ (ds es : List D), ds.length ≠ es.length → sameA ds es = false
  | [], [], h => by simp at h
  | [], _ :: _, h => rfl
  | _ :: _, [], h => rfl
  | d :: ds, e :: es, h => by rw [sameA, sameA_len ds es (by simpa using h), Bool.and_false]
theorem eqD_bl (x y : Bool) : eqD (.bl x) (.bl y) = (x == y) := by cases x <;> cases y <;> rfl
theorem eqD_int (x y : Int) : eqD (.int x) (.int y) = decide (x = y) := by
  show (x == y) = decide (x = y)
  by_cases h : x = y <;> simp [h]
theorem eqD_str (x y : List Nat) : eqD (.str x) (.str y) = decide (x = y) := by
  show (toStr x == toStr y) = decide (x = y)
  by_cases h : x = y
  · rw [decide_eq_true h, h]; exact beq_self_eq_true _
  · rw [decide_eq_false h]; exact beq_eq_false_iff_ne.mpr fun z => h (by have := congrArg (fun s => s.cps.toList) z; rwa [toStr_list, toStr_list] at this)
def P_same (m : Nat) : PSp := fun ds K => ∃ a d, ds = [a, d] ∧ Ok m d ∧ K (.sh (.bl (sameD a d)))
def P_none : PSp := fun _ _ => False
def P_sameB : Nat → PSp
  | 0 => P_none
  | m + 1 => P_same m
theorem lc_inv0 {ti : TIp} {g : TGp} {tt : TTp} {te : TEp} {vs : List Nat} {env : Ev} {K : Rv → Ev → Prop} (h : pLc ti g tt te vs env K) : qLc ti g tt te vs env K := by rw [qLc_eq]; exact h
theorem all_ok {K' : Rv → Prop} {m : Nat} {a d : D} {ds es : List D} (ha : a = .lst ds ∨ a = .lck ds ∨ a = .tup ds) (hd : d = .lst es ∨ d = .lck es ∨ d = .tup es) (hl : es.length < 16777216) (ho : ∀ d ∈ es, Ok m d) (k : K' (.sh (.bl (sameA ds es)))) :
    (sRet (pAndV (pOp2 pEq (pCB bLen (pCons (pVar 0) pNil)) (pCB bLen (pCons (pVar 1) pNil))) (pCB bAll (pCons (qLc (pRng1 (pCons (pCB bLen (pCons (pVar 1) pNil)) pNil)) (gNm 3) tYs (pCall (P_same m) (pCons (pOp2 pIx (pVar 0) (pVar 3)) (pCons (pOp2 pIx (pVar 1) (pVar 3)) pNil))) [3]) pNil)))) { nx := fun _ => K' (.sh .non), rt := fun r _ => K' r } [.sh a, .sh d, .un, .un] := by
  have e62 : (2 : Int) ^ 62 = 4611686018427387904 := by decide
  have fin : ds.length = es.length → ∀ (acc : List D) (e : Ev), acc = (List.range es.length).map (fun i => D.bl (sameD (ds.getD i .non) (es.getD i .non))) → bAll [.lst acc] K' := by
    intro h acc e h1
    refine ⟨(List.range es.length).map (fun i => sameD (ds.getD i .non) (es.getD i .non)), by rw [h1, List.map_map]; rfl, ?_⟩
    rw [← sameA_all ds es h] at k
    exact k
  have step : ∀ i : Nat, ds.length = es.length → i < es.length → ds[i]? = some (ds.getD i .non) ∧ es[i]? = some (es.getD i .non) ∧ es.getD i .non ∈ es := by
    intro i h hi
    have hi' : i < ds.length := by omega
    refine ⟨by simp [hi'], by simp [hi], ?_⟩
    have : es.getD i .non = es[i] := by simp [hi]
    rw [this]
    exact List.getElem_mem hi
  have inv : ∀ i : Nat, i < es.length → (rangeD 0 (((es.length : Nat) : Int)).toNat)[i]? = some (.int (i : Nat)) := by
    intro i hi
    rw [Int.toNat_natCast]
    simp [rangeD, hi]
  have hr : (rangeD 0 (((es.length : Nat) : Int)).toNat).length = es.length := by simp [rangeD]
  have main : bm (eqD (.int (ds.length : Nat)) (.int (es.length : Nat))) (pCB bAll (pCons (qLc (pRng1 (pCons (pCB bLen (pCons (pVar 1) pNil)) pNil)) (gNm 3) tYs (pCall (P_same m) (pCons (pOp2 pIx (pVar 0) (pVar 3)) (pCons (pOp2 pIx (pVar 1) (pVar 3)) pNil))) [3]) pNil) [.sh a, .sh d, .un, .un] fun r e => (match r with
  | .sh d => K' (.sh d)
  | .own o => K' (.own o)
  | .bor i => match e[i]? with
    | some (.sh d) => K' (.sh d)
    | some (.own o) => K' (.own o)
    | _ => False)) (K' (.sh (.bl (eqD (.int (ds.length : Nat)) (.int (es.length : Nat)))))) := by
    rw [eqD_int]
    refine ifD (fun h => ?_) (fun h => ?_)
    · have h : ds.length = es.length := by exact_mod_cast h
      rcases ha with rfl | rfl | rfl <;> rcases hd with rfl | rfl | rfl
      all_goals
        refine lc_inv0 (And.intro (by omega) ?_)
        refine Exists.intro (fun i acc e => i ≤ es.length ∧ acc = (List.range i).map (fun i => D.bl (sameD (ds.getD i .non) (es.getD i .non))) ∧ e = [.sh _, .sh _, .un, .un]) (And.intro ⟨Nat.zero_le _, rfl, rfl⟩ (And.intro ?_ ?_))
        · rintro i d0 acc e hi ⟨h1, rfl, rfl⟩
          have hi2 : i < es.length := by
            have := (List.getElem?_eq_some_iff.mp hi).1
            rwa [hr] at this
          rw [inv i hi2] at hi
          cases hi
          obtain ⟨q1, q2, q3⟩ := step i h hi2
          refine ⟨(i : Nat), _, rfl, L2.atI_nat q1, (i : Nat), _, rfl, L2.atI_nat q2, _, _, rfl, ho _ q3, ?_, ?_⟩
          · simp; exact Nat.lt_trans hi2 hl
          · refine ⟨hi2, ?_, rfl⟩
            rw [List.range_succ, List.map_append]
            rfl
        · rintro acc e ⟨_, h1, _⟩
          rw [hr] at h1
          exact fin h acc e h1
    · have h' : ds.length ≠ es.length := fun z => h (by rw [z])
      rw [decide_eq_false h]
      rw [sameA_len ds es h'] at k
      exact k
  rcases ha with rfl | rfl | rfl <;> rcases hd with rfl | rfl | rfl
  all_goals exact And.intro (And.intro trivial trivial) main
theorem law_same (m : Nat) : ∀ ds K', P_same m ds K' → r__law_same (P_sameB m) { nx := fun _ => K' (.sh .non), rt := fun r _ => K' r } (startE ["answer", "due", "key", "k"] ds) := by
  rintro ds K' ⟨a, d, rfl, ok, k⟩
  cases d with
  | dct ks vs => cases m <;> exact ok.elim
  | non => cases a <;> exact k
  | bl c => cases c <;> cases a <;> first | exact k | (rename_i c; cases c <;> exact k)
  | str l =>
    cases a with
    | str x =>
      refine And.intro (And.intro trivial trivial) ?_
      have e := eqD_str x l
      rw [show sameD (.str x) (.str l) = decide (x = l) from rfl, ← e] at k
      exact k
    | _ => exact k
  | int l =>
    cases a with
    | int x =>
      refine And.intro (And.intro trivial trivial) ?_
      have e := eqD_int x l
      rw [show sameD (.int x) (.int l) = decide (x = l) from rfl, ← e] at k
      exact k
    | _ => exact k
  | lst es =>
    cases m with
    | zero => exact ok.elim
    | succ m =>
      cases a with
      | lst ds => exact And.intro (And.intro trivial trivial) (And.intro (And.intro trivial trivial) (all_ok (.inl rfl) (.inl rfl) ok.1 ok.2 k))
      | lck ds => exact And.intro (And.intro trivial trivial) (And.intro (And.intro trivial trivial) (all_ok (.inr (.inl rfl)) (.inl rfl) ok.1 ok.2 k))
      | _ => exact And.intro (And.intro trivial trivial) k
  | lck es =>
    cases m with
    | zero => exact ok.elim
    | succ m =>
      cases a with
      | lst ds => exact And.intro (And.intro trivial trivial) (And.intro (And.intro trivial trivial) (all_ok (.inl rfl) (.inr (.inl rfl)) ok.1 ok.2 k))
      | lck ds => exact And.intro (And.intro trivial trivial) (And.intro (And.intro trivial trivial) (all_ok (.inr (.inl rfl)) (.inr (.inl rfl)) ok.1 ok.2 k))
      | _ => exact And.intro (And.intro trivial trivial) k
  | tup es =>
    cases m with
    | zero => exact ok.elim
    | succ m =>
      cases a with
      | tup ds => exact And.intro (And.intro trivial trivial) (And.intro (And.intro trivial trivial) (all_ok (.inr (.inr rfl)) (.inr (.inr rfl)) ok.1 ok.2 k))
      | lst ds => exact And.intro (And.intro trivial trivial) k
      | lck ds => exact And.intro (And.intro trivial trivial) k
      | _ => exact And.intro (And.intro trivial trivial) (And.intro (And.intro trivial trivial) k)
end PL
namespace PL
open PySem PySem.Spec PyProof.Rows L2
@[irreducible] def P__law_same : PSp := P_same 8
theorem P_same.mono : ∀ {m n : Nat} {d : D}, m ≤ n → Ok m d → Ok n d
  | m, n, .non, _, _ => by cases n <;> trivial
  | m, n, .bl _, _, _ => by cases n <;> trivial
  | m, n, .int _, _, _ => by cases n <;> trivial
  | m, n, .str _, _, _ => by cases n <;> trivial
  | 0, _, .lst _, _, h => h.elim
  | 0, _, .lck _, _, h => h.elim
  | 0, _, .tup _, _, h => h.elim
  | 0, _, .dct _ _, _, h => h.elim
  | m + 1, n, .dct _ _, _, h => h.elim
  | m + 1, 0, .lst _, q, _ => by omega
  | m + 1, 0, .lck _, q, _ => by omega
  | m + 1, 0, .tup _, q, _ => by omega
  | m + 1, n + 1, .lst ds, q, h => ⟨h.1, fun d hd => P_same.mono (by omega) (h.2 d hd)⟩
  | m + 1, n + 1, .lck ds, q, h => ⟨h.1, fun d hd => P_same.mono (by omega) (h.2 d hd)⟩
  | m + 1, n + 1, .tup ds, q, h => ⟨h.1, fun d hd => P_same.mono (by omega) (h.2 d hd)⟩

/-! ### what the written part holds -/
section
variable {P : Program} {w : World} {K : PySem.W.Frag} {mg : Str → Option Value} {base h : Heap} {fa : Addr}
/-- a def of the written part -/
def Kf (K : PySem.W.Frag) (x : Str) (st : Stmt) : Prop := ∃ (f : Addr) (oc : Value) (od : Option Addr) (kV dc pm : Value) (an : Option Addr) (cd ct : Value) (sl : Array (Option Value)), PySem.W.nsIn K mainGlobals x = some (some (.ref f)) ∧
  K.lookup f = some ⟨oc, od, .func (PySem.W.fnOf x x (defArgs st) (defBody st) (defScope st) .none kV dc pm an cd ct), sl⟩ ∧ PySem.W.codeIn K cd x = true ∧ PySem.W.keepIn K (.ref f) = true
theorem kf_mk {x : Str} {st : Stmt} {f : Addr} {oc : Value} {od : Option Addr} {kV dc pm : Value} {an : Option Addr} {cd ct : Value} {sl : Array (Option Value)} (h1 : PySem.W.nsIn K mainGlobals x = some (some (.ref f)))
    (h2 : K.lookup f = some ⟨oc, od, .func (PySem.W.fnOf x x (defArgs st) (defBody st) (defScope st) .none kV dc pm an cd ct), sl⟩) (h3 : PySem.W.codeIn K cd x = true) (h4 : PySem.W.keepIn K (.ref f) = true) : Kf K x st :=
  ⟨f, oc, od, kV, dc, pm, an, cd, ct, sl, h1, h2, h3, h4⟩
theorem Kf.top {x : Str} {st : Stmt} {ps : List Str} (X : K.In h) (G : h.Ns mainGlobals mg) (q : Kf K x st)
    (b : ∀ (kV doc pm : Value) (an : Option Addr) (cdv ct : Value) (us : List Value), us.length = ps.length → bindArgs (PySem.W.fnOf x x (defArgs st) (defBody st) (defScope st) .none kV doc pm an cdv ct) ⟨us, []⟩ = pure (ps.zip us)) : Top K mg x st ps := by
  obtain ⟨f, oc, od, kV, dc, pm, an, cd, ct, sl, h1, h2, h3, h4⟩ := q
  have F := fun_mk (st := st) h2 h3 h4
  exact ⟨f, _, F, PySem.W.mg_of X G h1, F.binds b⟩
/-- the end -/
theorem law_end {x : Str} {st : Stmt} {y : Str} {N : List Str} {k : Nat} {t : TSp} {Sp : PSp} (X : K.In h) (G : h.Ns mainGlobals mg) (hfa : mg x = some (.ref fa)) (q : Kf K x st)
    (b : ∀ (kV doc pm : Value) (an : Option Addr) (cdv ct : Value) (u : Value), bindArgs (PySem.W.fnOf x x (defArgs st) (defBody st) (defScope st) .none kV doc pm an cdv ct) ⟨[u], []⟩ = pure [(y, u)]) (Sc : FnScope N [y] (defScope st))
    (B : ∀ base, Body P w K mg base k x N st t) (len : ∀ ds K', Sp ds K' → ds.length = 1) (law : ∀ ds K', Sp ds K' → t { nx := fun _ => K' (.sh .non), rt := fun r _ => K' r } (startE N ds)) :
    ∃ fd : FuncData, (∀ (s : Shared) (u : Value), BindsTo s fd ⟨[u], []⟩ [(y, u)]) ∧ ∀ base : Heap, K.In base → base.Ns mainGlobals mg → FnOk P w K mg base CX0 (k + 1) fa fd [y] (spOf K Sp) := by
  obtain ⟨f, oc, od, kV, dc, pm, an, cd, ct, sl, h1, h2, h3, h4⟩ := q
  have e := hfa.symm.trans (PySem.W.mg_of X G h1)
  cases e
  have F := fun_mk (st := st) h2 h3 h4
  exact ⟨_, fun s u => .of_eq (b kV dc pm an cd ct u), fun base _ _ => fnP F Sc len fun cdv A outer s H E' hr => ⟨t, B base _ cdv A outer s H E' hr, law⟩⟩

/-! ### constants of the top -/
/-- what the value u stands for in the written part -/
def KD (K : PySem.W.Frag) : D → Value → Prop
  | .non, u => u = .none
  | .bl b, u => u = .bool b
  | .int i, u => ∃ t, u = .int i t
  | .str l, u => ∃ t, u = .str (toStr l) t
  | .tup ds, u => ∃ a oc od its n sl, u = .ref a ∧ K.lookup a = some ⟨oc, od, .seq its n, sl⟩ ∧ oc = .type "tuple" ∧ its.size ≤ sizeLine ∧ KDA ds its.toList
  | _, _ => False
where KDA : List D → List Value → Prop
  | [], us => us = []
  | d :: ds, us => ∃ u r, us = u :: r ∧ KD K d u ∧ KDA ds r
mutual
theorem KD.ok : ∀ {d : D} {u : Value}, KD K d u → ∃ v, RelV v u ∧ ∀ H, R K H d v
  | .non, u, h => ⟨.non, h, fun _ => rfl⟩
  | .bl b, u, h => ⟨.bl b, h, fun _ => rfl⟩
  | .int i, u, h => ⟨.int i, h, fun _ => rfl⟩
  | .str l, u, h => ⟨.str (toStr l), h, fun _ => rfl⟩
  | .tup ds, u, ⟨a, oc, od, its, n, sl, e, h1, h2, h3, h4⟩ => by
    obtain ⟨vs, g1, g2⟩ := KDA.ok h4
    exact ⟨.ref a, e, fun H => ⟨a, vs, rfl, .inr ⟨_, its, n, h1, h2, rfl, h3, g1⟩, g2 H⟩⟩
  | .lst _, _, h => h.elim
  | .lck _, _, h => h.elim
  | .dct _ _, _, h => h.elim
theorem KDA.ok : ∀ {ds : List D} {us : List Value}, KD.KDA K ds us → ∃ vs, Vals vs us ∧ ∀ H, RA K H ds vs
  | [], us, h => ⟨[], by rw [show us = [] from h]; exact .nil, fun _ => rfl⟩
  | d :: ds, us, ⟨u, r, e, h1, h2⟩ => by
    obtain ⟨v, g1, g2⟩ := KD.ok h1
    obtain ⟨vs, g3, g4⟩ := KDA.ok h2
    exact ⟨v :: vs, by rw [e]; exact .cons g1 g3, fun H => ⟨v, vs, rfl, g2 H, g4 H⟩⟩
end
def Kc (K : PySem.W.Frag) (x : Str) (d : D) : Prop := ∃ u, PySem.W.nsIn K mainGlobals x = some (some u) ∧ KD K d u
theorem Kc.con {x : Str} {d : D} (X : K.In h) (G : h.Ns mainGlobals mg) (q : Kc K x d) : Con K mg x d :=
  let ⟨u, h1, h2⟩ := q; let ⟨v, g1, g2⟩ := h2.ok; ⟨u, v, PySem.W.mg_of X G h1, g1, g2⟩
theorem kc_mk {x : Str} {d : D} {u : Value} (h1 : PySem.W.nsIn K mainGlobals x = some (some u)) (h2 : KD K d u) : Kc K x d := ⟨u, h1, h2⟩
theorem kda_nil : KD.KDA K [] [] := rfl
theorem kda_cons {d : D} {ds : List D} {u : Value} {us : List Value} (h1 : KD K d u) (h2 : KD.KDA K ds us) : KD.KDA K (d :: ds) (u :: us) := ⟨u, us, rfl, h1, h2⟩
theorem kd_int {i : Int} {t : Tok} : KD K (.int i) (.int i t) := ⟨t, rfl⟩
theorem kd_str {l : List Nat} {s : Str} {t : Tok} (h : s = toStr l) : KD K (.str l) (.str s t) := ⟨t, by rw [h]⟩
theorem kd_bl {b : Bool} : KD K (.bl b) (.bool b) := rfl
theorem kd_non : KD K .non .none := rfl
/-- a tuple of the written part -/
theorem kd_tup {ds : List D} {a : Addr} {oc : Value} {od : Option Addr} {its : Array Value} {n : Nat} {sl : Array (Option Value)} (h1 : K.lookup a = some ⟨oc, od, .seq its n, sl⟩) (h2 : oc = .type "tuple") (h3 : its.size ≤ sizeLine) (h4 : KD.KDA K ds its.toList) : KD K (.tup ds) (.ref a) :=
  ⟨a, oc, od, its, n, sl, rfl, h1, h2, h3, h4⟩

/-! ### the common defs are got -/
theorem got_none {x : Str} {st : Stmt} {ps : List Str} (T : Top K mg x st ps) (k : Nat) : Got P w K mg base k x ps (spOf K P_none) :=
  let ⟨f, fd, F, hm, hb⟩ := T
  ⟨f, fd, ⟨fun _ _ _ _ ⟨_, _, _, _, _, z, _⟩ => z.elim, fun _ _ _ _ _ _ _ _ _ _ _ _ _ ⟨_, _, _, _, _, z, _⟩ => z.elim⟩, hm, F.kp, hb⟩
theorem got_same {st : Stmt} (T : Top K mg "_law_same" st ["answer", "due"]) (Sc : FnScope ["answer", "due", "key", "k"] ["answer", "due"] (defScope st))
    (B : ∀ k Sp, Got P w K mg base k "_law_same" ["answer", "due"] (spOf K Sp) → Body P w K mg base k "_law_same" ["answer", "due", "key", "k"] st (r__law_same Sp)) : ∀ m, Got P w K mg base (m + 1) "_law_same" ["answer", "due"] (spOf K (P_same m))
  | 0 => got_fn T Sc (B 0 _ (got_none T 0)) (fun _ _ ⟨_, _, e, _⟩ => by rw [e]; rfl) (law_same 0)
  | m + 1 => got_fn T Sc (B (m + 1) _ (got_same T Sc B m)) (fun _ _ ⟨_, _, e, _⟩ => by rw [e]; rfl) (law_same (m + 1))
end
end PL
namespace PL
/-! ### comprehensions that leave the rest as it is -/
def lcT (te : TEp) (vs : List Nat) (env : Ev) (Q1 : D → Ev → Prop) (Q0 : Ev → Prop) : Bool → Ev → Prop := fun b e3 => match b with
  | true => te e3 fun r e4 => share e4 r fun y e5 => Q1 y (back e5 env vs)
  | false => Q0 (back e3 env vs)
theorem lc_filter {ti : TIp} {g : TGp} {tt : TTp} {te : TEp} {vs : List Nat} {env : Ev} {K : Rv → Ev → Prop} {ds : List D} (F : D → Option D) (hi : ∀ K : List D → Ev → Prop, K ds env → ti env K)
    (hs : ∀ (d : D) (Q1 : D → Ev → Prop) (Q0 : Ev → Prop), d ∈ ds → (F d = none → Q0 env) → (∀ y, F d = some y → Q1 y env) → g d (wipeE env vs) fun e2 => tt e2 (lcT te vs env Q1 Q0)) (hl : ds.length ≤ PySem.sizeLine) (hk : K (.own (.lst (ds.filterMap F))) env) :
    qLc ti g tt te vs env K := by
  rw [qLc_eq]
  refine hi _ ⟨fun k acc e => k ≤ ds.length ∧ acc = (ds.take k).filterMap F ∧ e = env, ⟨Nat.zero_le _, rfl, rfl⟩, ?_, ?_⟩
  · rintro k d acc e hd ⟨hk, rfl, rfl⟩
    have hlt : k < ds.length := (List.getElem?_eq_some_iff.mp hd).1
    have hm : d ∈ ds := List.mem_of_getElem? hd
    have ht : (ds.take (k + 1)).filterMap F = (ds.take k).filterMap F ++ [d].filterMap F := by
      rw [List.take_add_one, hd, List.filterMap_append]; rfl
    have hz : ((ds.take k).filterMap F).length < PySem.sizeLine := by
      have h1 := List.length_filterMap_le F (ds.take k)
      have h2 : (ds.take k).length = min k ds.length := List.length_take
      omega
    refine hs d (fun y e' => ((ds.take k).filterMap F).length < PySem.sizeLine ∧ k + 1 ≤ ds.length ∧ (ds.take k).filterMap F ++ [y] = (ds.take (k + 1)).filterMap F ∧ e' = _) (fun e' => k + 1 ≤ ds.length ∧ (ds.take k).filterMap F = (ds.take (k + 1)).filterMap F ∧ e' = _) hm (fun h => ⟨hlt, ?_, rfl⟩) (fun y h => ⟨hz, hlt, ?_, rfl⟩)
    · rw [ht, List.filterMap_cons, h]; simp
    · rw [ht, List.filterMap_cons, h]; rfl
  · rintro acc e ⟨_, rfl, rfl⟩
    rw [List.take_length]
    exact hk
theorem lc_map {ti : TIp} {g : TGp} {te : TEp} {vs : List Nat} {env : Ev} {K : Rv → Ev → Prop} {ds : List D} (F : D → D) (hi : ∀ K : List D → Ev → Prop, K ds env → ti env K)
    (hs : ∀ (d : D) (Q : D → Ev → Prop), d ∈ ds → Q (F d) env → g d (wipeE env vs) fun e2 => te e2 fun r e4 => share e4 r fun y e5 => Q y (back e5 env vs)) (hl : ds.length ≤ PySem.sizeLine) (hk : K (.own (.lst (ds.map F))) env) :
    qLc ti g tYs te vs env K :=
  lc_filter (fun d => some (F d)) hi (fun d Q1 Q0 hd _ h1 => hs d Q1 hd (h1 _ rfl)) hl (by rw [List.filterMap_eq_map']; exact hk)
/-- a comprehension, by an own invariant -/
theorem lc_inv {ti : TIp} {g : TGp} {tt : TTp} {te : TEp} {vs : List Nat} {env : Ev} {K : Rv → Ev → Prop} (h : pLc ti g tt te vs env K) : qLc ti g tt te vs env K := by rw [qLc_eq]; exact h
theorem dc_inv {ti : TIp} {g : TGp} {tt : TTp} {tk tv : TEp} {vs : List Nat} {env : Ev} {K : Rv → Ev → Prop} (h : pDc ti g tt tk tv vs env K) : qDc ti g tt tk tv vs env K := by rw [qDc_eq]; exact h
theorem filterMap_if {α : Type} {F : D → Option D} {G : α → D} {p : α → Bool} {W : α → D} (h : ∀ i, F (G i) = if p i then some (W i) else none) : ∀ l : List α, (l.map G).filterMap F = (l.filter p).map W
  | [] => rfl
  | i :: r => by
    rw [List.map_cons, List.filterMap_cons, h, List.filter_cons]
    cases hp : p i with
    | true => simp [filterMap_if h r]
    | false => simp [filterMap_if h r]
/-! ### ranges -/
theorem rangeD_len (lo : Int) (n : Nat) : (rangeD lo n).length = n := by simp [rangeD]
theorem rangeD_get {lo : Int} {n i : Nat} {d : D} (h : (rangeD lo n)[i]? = some d) : i < n ∧ d = .int (lo + (i : Nat)) := by
  unfold rangeD at h
  rw [List.getElem?_map] at h
  cases e : (List.range n)[i]? with
  | none => rw [e] at h; cases h
  | some j =>
    rw [e] at h
    cases h
    obtain ⟨h1, h2⟩ := List.getElem?_eq_some_iff.mp e
    simp at h1 h2
    exact ⟨h1, by rw [h2]⟩
theorem rangeD_mem {lo : Int} {n : Nat} {d : D} (h : d ∈ rangeD lo n) : ∃ i, i < n ∧ d = .int (lo + (i : Nat)) := by
  obtain ⟨i, hi⟩ := List.getElem?_of_mem h
  exact ⟨i, rangeD_get hi⟩
/-! ### what is the same as itself -/
mutual
theorem sameD_refl : ∀ (m : Nat) (d : D), Ok m d → sameD d d = true
  | _, .non, _ => rfl
  | _, .bl b, _ => by cases b <;> rfl
  | _, .int i, _ => by simp [sameD]
  | _, .str l, _ => by simp [sameD]
  | m + 1, .lst ds, h => sameA_refl m ds h.2
  | m + 1, .lck ds, h => sameA_refl m ds h.2
  | m + 1, .tup ds, h => sameA_refl m ds h.2
  | 0, .lst _, h => h.elim
  | 0, .lck _, h => h.elim
  | 0, .tup _, h => h.elim
  | 0, .dct _ _, h => h.elim
  | _ + 1, .dct _ _, h => h.elim
theorem sameA_refl : ∀ (m : Nat) (ds : List D), (∀ d ∈ ds, Ok m d) → sameA ds ds = true
  | _, [], _ => rfl
  | m, d :: ds, h => by rw [sameA, sameD_refl m d (h d List.mem_cons_self), sameA_refl m ds fun e he => h e (List.mem_cons_of_mem _ he)]; rfl
end
/-- a use of _law_same where both sides are the same -/
theorem same_use {K : Rv → Prop} {d : D} (ok : Ok 8 d) (k : K (.sh (.bl true))) : P__law_same [d, d] K := by
  unfold P__law_same
  exact ⟨d, d, rfl, ok, by rw [sameD_refl 8 d ok]; exact k⟩
theorem startE_nil {N : List PySem.Str} {n : Nat} (h : N.length = n) : startE N [] = List.replicate n .un := by rw [startE, h]; rfl
end PL
namespace PL
open PySem PySem.Spec PyProof.Rows L2

/-! ### gcd -/
section
variable {X : Cx} {pos p apos cpos : Pos} {e : Expr} {es : List Expr} {te : TEp} {tA : TAp}
def bGcd (ds : List D) (K : Rv → Prop) : Prop := match ds with
  | [.int a, .int b] => K (.sh (.int ((Nat.gcd a.natAbs b.natAbs : Nat) : Int)))
  | _ => False
theorem b_gcd : CallP X (.builtin "math.gcd") bGcd := by
  refine ⟨_, cr_gcd, fun P H ds vs Kf Q dom rt f k => ?_⟩
  unfold bGcd at f
  split at f
  · obtain ⟨v, u, rfl, h1, h2⟩ := rt.two
    cases (show v = _ from h1); cases (show u = _ from h2)
    exact ⟨_, _, rfl, k _ _ _ _ f (resInt _)⟩
  · exact f.elim
/-- a built-in by an imported name -/
theorem e_callIm {id : String} {x : Str} {f} (hc : CallP X (.builtin id) f) (hg : Gl X x) (hm : X.mg x = some (.builtin id)) (ha : A X (e :: es) tA) (hdb : (x == ("__debug__" : Str)) = false := by decide)
    (he : starEach (e :: es) X.env = (false, eval e X.env) :: starEach es X.env := by rfl) (hpl : (backTo pos (starEach es X.env)).any (·.1) = false := by rfl) : E X (.Call (.Name x p) (e :: es) [] pos) (pCB f tA) := by
  obtain ⟨r, ho, hr⟩ := hc
  exact peImp (pe_callBfun ho hg hm ha hdb he hpl) fun σ H Q h => cb_ok hr h

/-! ### xs.pop(i) -/
def fPopAt (ds args : List D) (K : D → List D → Prop) : Prop := match args with
  | [.int i] => (-(2 ^ 63) ≤ i ∧ i < 2 ^ 63) ∧ ∃ j d, ixN ds.length i = some j ∧ ds[j]? = some d ∧ K d (ds.eraseIdx j)
  | _ => False
theorem mu_popAt {K : PySem.W.Frag} : MutP K rPopAt fPopAt := fun P H a xs ds args vs Kf Q hH hR hA f k => by
  unfold fPopAt at f
  split at f
  · obtain ⟨v, vr, rfl, h1, h2⟩ := hA
    cases (show vr = [] from h2)
    cases (show v = _ from h1)
    obtain ⟨⟨b1, b2⟩, j, d, hj, hd, f⟩ := f
    obtain ⟨w, hw, rw'⟩ := hR.get hd
    rw [hR.len] at hj
    exact ⟨a, xs, _, j, w, rfl, rfl, hH, b1, b2, (ixN_seq hj).1, hw, k _ _ _ _ f (hR.eraseIdx j) rw'⟩
  · exact f.elim
theorem e_popAt (i : Nat) {y : Str} {py : Pos} (he : E X e te) (hN : X.N[i]? = some y := by rfl) (hv : Vis X.env.scope y := by first | exact Or.inl rfl | exact Or.inr (Or.inl rfl) | exact Or.inr (Or.inr rfl)) (hd : (y == ("__debug__" : Str)) = false := by decide) (hcd : (y == ("__classdict__" : Str)) = false := by decide)
    (hbase : attributeBase (.Name y py) "pop" X.env (eval (.Name y py) X.env) = eval (.Name y py) X.env := by rfl)
    (hfew : ((backTo cpos (starEach [e] X.env)).all (fun x => !x.1) && (backToKw cpos (keywordEach [] X.env)).all (fun x => x.1.isSome)
      && decide ([e].length + ([] : List Keyword).length + (if ([] : List Keyword).isEmpty then 0 else 1) < 30)) = true := by rfl)
    (hline : (apos.endLine == cpos.line) = true := by rfl) (hs : starEach [e] X.env = (false, eval e X.env) :: starEach [] X.env := by rfl) (hplain : (backTo cpos (starEach [] X.env)).any (·.1) = false := by rfl) :
    E X (.Call (.Attribute (.Name y py) "pop" apos) [e] [] cpos) (pMut i fPopAt (pCons te pNil)) :=
  e_mut i PySem.F.slot_list_pop PySem.F.type_list_pop mt_popAt mu_popAt (a_cons he a_nil hs) hN hv hd hcd hbase hfew hline hs hplain

/-! ### data of the reader -/
mutual
theorem R.dp {K : PySem.W.Frag} {H : Hp} : ∀ {n : Nat} {d : D} {v : V}, Sh n d → R K H d v → Dp K H v (py d)
  | _, .non, v, _, h => by rw [show v = _ from h]; exact .non
  | _, .bl b, v, _, h => by rw [show v = _ from h]; exact .bl b
  | _, .int b, v, _, h => by rw [show v = _ from h]; exact .int b
  | _, .str b, v, _, h => by rw [show v = _ from h]; exact .str _
  | n + 1, .lst ds, v, s, h => by
    obtain ⟨a, xs, rfl, h1, h2⟩ := h
    exact .lst (SqL.of h1) (RA.dp s h2)
  | n + 1, .lck ds, v, s, h => by
    obtain ⟨a, xs, rfl, h1, h2⟩ := h
    exact .lst h1 (RA.dp s h2)
  | n + 1, .tup ds, v, s, h => by
    obtain ⟨a, xs, rfl, h1, h2⟩ := h
    exact .tup h1 (RA.dp s h2)
  | 0, .lst _, _, s, _ => s.elim
  | 0, .lck _, _, s, _ => s.elim
  | 0, .tup _, _, s, _ => s.elim
  | 0, .dct _ _, _, s, _ => s.elim
  | _ + 1, .dct _ _, _, s, _ => s.elim
theorem RA.dp {K : PySem.W.Frag} {H : Hp} : ∀ {n : Nat} {ds : List D} {vs : List V}, (∀ d ∈ ds, Sh n d) → RA K H ds vs → DpAll K H vs (pyA ds)
  | _, [], vs, _, h => by rw [show vs = [] from h]; exact .nil
  | n, d :: ds, _, s, ⟨v, r, e, h1, h2⟩ => by
    rw [e]
    exact .cons (R.dp (s d List.mem_cons_self) h1) (RA.dp (fun x hx => s x (List.mem_cons_of_mem _ hx)) h2)
end
end
end PL
namespace PL
open PySem PySem.Spec PyProof.Rows L2

/-! ### xs.index(x) -/
section
variable {X : Cx}
def idxD (ds : List D) (d : D) : Option Nat := ds.findIdx? fun z => eqD z d
theorem place_py (d : D) : ∀ ds : List D, PySem.SeqAt.dataPlace (pyA ds) (py d) = idxD ds d
  | [] => rfl
  | z :: ds => by
    have ih := place_py d ds
    unfold PySem.SeqAt.dataPlace idxD at *
    rw [pyA, List.findIdx?_cons, List.findIdx?_cons, ih]
    rfl
def rLIndex (K : PySem.W.Frag) : V → List V → Hp → VK → Prop := fun x xs H Q => ∃ (a : Addr) (ys : List V) (y : V) (ds : List D) (d : D) (j : Nat), x = V.ref a ∧ xs = [y] ∧ SqL K H a ys ∧ RA K H ds ys ∧ R K H d y ∧ (∀ z ∈ ds, Sh 20 z) ∧ Sh 20 d ∧ idxD ds d = some j ∧ Q (.int (j : Nat)) H
theorem plainAll_py {ds : List D} (h : ∀ z ∈ ds, Sh 20 z) : PyData.plainAll (pyA ds) = true := plainAll_of fun p hp => by
  rw [pyA_map] at hp
  obtain ⟨d, hd, rfl⟩ := List.mem_map.mp hp
  exact (h d hd).py.1
theorem mt_lindex (hu : X.A.units + 65 < cLine) : MtR X "list.index" (rLIndex X.K) := by
  intro pins s σ H x xs v us Q I rx rxs h
  obtain ⟨a, ys, y, ds, d, j, rfl, rfl, hs, hr, hd, s1, s2, hj, q⟩ := h
  cases rx
  cases rxs with
  | cons ry rt =>
    cases rt
    rename_i uy
    obtain ⟨bs, r1⟩ := R.reads I d y uy s2.py.1 hd ry
    obtain ⟨its, rv, ⟨⟨cls, dd, data, sls⟩, n, ho, hc, hdn, hdt⟩, hlen⟩ := I.list hs
    simp only at hc hdt
    subst hc hdt
    have hp := plainAll_py s1
    obtain ⟨as, r2⟩ := RA.readsAll I ds _ its hp hr rv
    have r2' : ReadsAll s.heap its.toArray.toList (pyA ds) as := r2
    have hu' : X.A.units + 1 + min (PyData.depthAll (pyA ds)) (py d).depth < cLine := by
      have h1 := s2.py.2
      have hm : min (PyData.depthAll (pyA ds)) (py d).depth ≤ (py d).depth := Nat.min_le_right _ _
      omega
    rw [← place_py] at hj
    obtain ⟨g1, g2, g3⟩ := PySem.SeqAt.hit_at r2' hp hj
    have hz : j < 16777217 := by
      have e : its.length = ys.length := rv.length.symm
      have := sizeLine_eq
      have g1' : j < its.length := by simpa using g1
      omega
    exact call_meets PySem.F.slot_list_index ⟨_, ho, rfl⟩ PySem.F.entry_list_index (PySem.F.args_list_index_2 _ _)
      (SeqAt.list_indexAt a its.toArray n dd sls uy (fun u => PyData.eqv (SeqAt.readOf s.heap u) (py d)) j g1 (by omega) g2 g3) ⟨ho, PySem.SeqAt.items_plain r2' r1 hp s2.py.1 hu', ⟨.int (j : Nat), H, I.tok _, ⟨_, rfl⟩, q⟩⟩
def mLIndex (x : D) (args : List D) (K : Rv → Prop) : Prop := match x, args with
  | .lst ds, [d] => ((∀ z ∈ ds, Sh 20 z) ∧ Sh 20 d) ∧ ∃ j, idxD ds d = some j ∧ K (.sh (.int (j : Nat)))
  | .lck ds, [d] => ((∀ z ∈ ds, Sh 20 z) ∧ Sh 20 d) ∧ ∃ j, idxD ds d = some j ∧ K (.sh (.int (j : Nat)))
  | _, _ => False
theorem m_lindex (hu : X.A.units + 65 < cLine) : MtP X "list.index" mLIndex := by
  refine ⟨_, mt_lindex hu, fun P H x v ds vs Kf Q dom rx rt f k => ?_⟩
  unfold mLIndex at f
  split at f
  · obtain ⟨⟨s1, s2⟩, j, hj, f⟩ := f
    obtain ⟨y, rfl, ry⟩ := rt.one
    obtain ⟨a, xs, rfl, h1, h2⟩ := Rt.full (mask_same H P) rx
    exact ⟨a, xs, y, _, _, j, rfl, rfl, SqL.of h1, h2, Rt.full (mask_same H P) ry, s1, s2, hj, k _ _ _ _ f (resInt _)⟩
  · obtain ⟨⟨s1, s2⟩, j, hj, f⟩ := f
    obtain ⟨y, rfl, ry⟩ := rt.one
    obtain ⟨a, xs, rfl, h1, h2⟩ := Rt.full (mask_same H P) rx
    exact ⟨a, xs, y, _, _, j, rfl, rfl, h1, h2, Rt.full (mask_same H P) ry, s1, s2, hj, k _ _ _ _ f (resInt _)⟩
  · exact f.elim

/-! ### sorted -/
/-- items that can be put in order: of one shape (numbers, texts, rows of these) -/
def SrtOk (ds : List D) : Prop := PySem.W.AllAlike (pyA ds) ∧ PySem.W.Sortable (pyA ds) ∧ (∀ d ∈ ds, Sh 20 d) ∧ ds.length ≤ PySem.sizeLine
def leD (x y : D) : Bool := !PySem.W.dataLt (py y) (py x)
def srtD (ds : List D) : List D := ds.mergeSort leD
def rSrtD (K : PySem.W.Frag) : List V → Hp → VK → Prop := fun vs H Q => ∃ (a : Addr) (xs : List V) (ds : List D) (Hs : Hp), vs = [V.ref a] ∧ SqL K H a xs ∧ Same Hs H ∧ RA K Hs ds xs ∧ SrtOk ds ∧ ∀ ys p, RA K Hs (srtD ds) ys → H p = none → Q (.ref p) (upd H p (.lst ys))
theorem each_of {K : PySem.W.Frag} {Hs : Hp} : ∀ {ds : List D} {xs : List V} {us : List Value}, RA K Hs ds xs → Vals xs us → PySem.W.EachIs (fun u d => ∃ v, RelV v u ∧ R K Hs d v) us ds
  | [], _, us, h, r => by
    cases (show _ = [] from h)
    cases r
    exact .nil
  | d :: ds, _, us, ⟨v, vr, e, h1, h2⟩, r => by
    subst e
    cases r with
    | cons r1 r2 => exact .cons ⟨v, r1, h1⟩ (each_of h2 r2)
theorem each_mem {α β : Type} {R R' : α → β → Prop} : ∀ {as : List α} {bs : List β}, PySem.W.EachIs R as bs → (∀ a b, b ∈ bs → R a b → R' a b) → PySem.W.EachIs R' as bs
  | _, _, .nil, _ => .nil
  | _, _, .cons h t, m => .cons (m _ _ List.mem_cons_self h) (each_mem t fun a b hb => m a b (List.mem_cons_of_mem _ hb))
theorem each_back {K : PySem.W.Frag} {Hs : Hp} : ∀ {ds : List D} {us : List Value}, PySem.W.EachIs (fun u d => ∃ v, RelV v u ∧ R K Hs d v) us ds → ∃ xs, RA K Hs ds xs ∧ Vals xs us
  | _, _, .nil => ⟨[], rfl, .nil⟩
  | _, _, .cons ⟨v, h1, h2⟩ t => let ⟨xs, g1, g2⟩ := each_back t; ⟨v :: xs, ⟨v, xs, rfl, h2, g1⟩, .cons h1 g2⟩
theorem cr_srtD (hu : X.A.units + 65 < cLine) : CallR X (.builtin "sorted") (rSrtD X.K) := by
  intro pins s σ H vs us Q I r h
  obtain ⟨a, xs, ds, Hs, rfl, hs, sm, hr, ⟨o1, o2, o3, o4⟩, q⟩ := h
  obtain ⟨its, rv, hl, hz⟩ := I.list hs
  rw [Vals.ref1 r]
  have er : PySem.W.EachIs (fun v b => ∃ as, Reads s.heap v (py b) as) its ds := each_mem (each_of hr rv) fun u d hd ⟨v, h1, h2⟩ => R.reads I d v u (o3 d hd).py.1 (R.mono sm _ _ h2) h1
  rw [pyA_map] at o1 o2
  refine PySem.W.sorted_data (R := fun u d => ∃ v, RelV v u ∧ R X.K Hs d v) (enc := py) hl.isList (each_of hr rv) er o1 o2 o4 (fun b hb => ?_) fun out hlen he => ?_
  · have := (o3 b hb).py.2
    omega
  · obtain ⟨ys, g1, g2⟩ := each_back he
    obtain ⟨ep, he'⟩ := PyProof.Rows.sortedAll_at s.heap its out.toArray
    have hn : ys.length ≤ sizeLine := by rw [g2.length, hlen]; exact o4
    exact ⟨.ref _, upd H (s.heap.objs.size + 1) (.lst ys), I.laid (t' := s.toks) (fun _ _ => PyProof.Rows.sortedAll_old) (Nat.le_succ _) ⟨hn, out, ep, g2, he'⟩, rfl, q _ _ g1 (I.hok.fresh (Nat.le_succ _))⟩
def bSorted (ds : List D) (K : Rv → Prop) : Prop := match ds with
  | [.lst xs] => SrtOk xs ∧ K (.own (.lst (srtD xs)))
  | [.lck xs] => SrtOk xs ∧ K (.own (.lst (srtD xs)))
  | _ => False
theorem b_sorted (hu : X.A.units + 65 < cLine) : CallP X (.builtin "sorted") bSorted := by
  refine ⟨_, cr_srtD hu, fun P H ds vs Kf Q dom rt f k => ?_⟩
  unfold bSorted at f
  split at f
  · obtain ⟨v, rfl, a, xs, rfl, h1, h2⟩ := rt.one
    exact ⟨a, xs, _, _, rfl, SqL.of h1, mask_same H P, h2, f.1, fun ys p g hp => k _ _ _ _ f.2 (newLst dom hp g)⟩
  · obtain ⟨v, rfl, h⟩ := rt.one
    obtain ⟨a, xs, rfl, h1, h2⟩ := h.lck' (mask_same H P)
    exact ⟨a, xs, _, _, rfl, h1, mask_same H P, h2, f.1, fun ys p g hp => k _ _ _ _ f.2 (newLst dom hp g)⟩
  · exact f.elim

/-! ### min of rows -/
theorem vals_back : ∀ {xs : List V} {us : List Value} {i : Nat} {u : Value}, Vals xs us → us[i]? = some u → ∃ x, xs[i]? = some x ∧ RelV x u
  | _, _, _, _, .nil, e => by simp at e
  | _, _, 0, _, .cons r _, e => by simp at e; subst e; exact ⟨_, rfl, r⟩
  | _, _, i + 1, u, .cons _ t, e => by
    obtain ⟨x, h1, h2⟩ := vals_back (i := i) (u := u) t (by simpa using e)
    exact ⟨x, by simpa using h1, h2⟩
theorem minD_mem (x : PyData) : ∀ xs : List PyData, PySem.W.minD x xs ∈ x :: xs := by
  intro xs
  unfold PySem.W.minD
  induction xs generalizing x with
  | nil => exact List.mem_cons_self
  | cons y r ih =>
    rw [List.foldl_cons]
    have := ih (if PySem.W.dataLt y x then y else x)
    rcases List.mem_cons.mp this with h | h
    · rw [h]
      split
      · exact List.mem_cons_of_mem _ List.mem_cons_self
      · exact List.mem_cons_self
    · exact List.mem_cons_of_mem _ (List.mem_cons_of_mem _ h)
def MinOk (ds : List D) : Prop := PySem.W.AlikeAll (pyA ds) ∧ (∀ d ∈ ds, Sh 20 d)
def rMinD (K : PySem.W.Frag) : List V → Hp → VK → Prop := fun vs H Q => ∃ (a : Addr) (xs : List V) (x : D) (ds : List D) (Hs : Hp), vs = [V.ref a] ∧ SqL K H a xs ∧ Same Hs H ∧ RA K Hs (x :: ds) xs ∧ MinOk (x :: ds) ∧ ∀ d v, d ∈ x :: ds → py d = PySem.W.minD (py x) (pyA ds) → R K Hs d v → Q v H
theorem cr_minD (hc : X.calm = true) (hu : X.A.units + 65 < cLine) : CallR X (.builtin "min") (rMinD X.K) := by
  intro pins s σ H vs us Q I r h
  obtain ⟨a, xs, x, ds, Hs, rfl, hs, sm, hr, ⟨o1, o3⟩, q⟩ := h
  obtain ⟨its, rv, hl, hz⟩ := I.list hs
  rw [Vals.ref1 r]
  have hp := plainAll_py o3
  obtain ⟨as, r2⟩ := RA.readsAll I (x :: ds) _ its hp (RA.mono sm _ _ hr) rv
  have r2' : ReadsAll s.heap its.toArray.toList (py x :: pyA ds) as := r2
  refine PySem.W.min_list_data (I.ok.hd hc) hl.isList r2' o1 ?_ fun i v h' tk bs hv rd hk => ?_
  · have hd : PyData.depthAll (pyA (x :: ds)) ≤ 21 := depthAll_of fun p hp => by
      rw [pyA_map] at hp
      obtain ⟨d, hd, rfl⟩ := List.mem_map.mp hp
      exact (o3 d hd).py.2
    have : PyData.depthAll (py x :: pyA ds) ≤ 21 := hd
    omega
  · have hv' : its[i]? = some v := by simpa using hv
    obtain ⟨y, hy, ry⟩ := vals_back rv hv'
    obtain ⟨d, hd, rd'⟩ := hr.getV hy
    have hm : d ∈ x :: ds := List.mem_of_getElem? hd
    obtain ⟨as', q1⟩ := R.reads I d y v (o3 d hm).py.1 (R.mono sm _ _ rd') ry
    have e : py d = PySem.W.minD (py x) (pyA ds) := by
      refine PySem.W.alike_unique _ _ _ _ _ (o1.1 _ ?_ _ (minD_mem _ _)) (PyProof.Rows.Reads.keeps hk q1) rd
      have : py d ∈ (x :: ds).map py := List.mem_map.mpr ⟨d, hm, rfl⟩
      rw [← pyA_map] at this
      exact this
    exact ⟨y, H, I.kept (t' := tk) hk, ry, q d y hm e rd'⟩
def bMinD (ds : List D) (K : Rv → Prop) : Prop := match ds with
  | [.lst (x :: xs)] => MinOk (x :: xs) ∧ ∀ d ∈ x :: xs, py d = PySem.W.minD (py x) (pyA xs) → K (.sh d)
  | _ => False
theorem b_minD (hc : X.calm = true) (hu : X.A.units + 65 < cLine) : CallP X (.builtin "min") bMinD := by
  refine ⟨_, cr_minD hc hu, fun P H ds vs Kf Q dom rt f k => ?_⟩
  unfold bMinD at f
  split at f
  · obtain ⟨v, rfl, a, xs, rfl, h1, h2⟩ := rt.one
    exact ⟨a, xs, _, _, _, rfl, SqL.of h1, mask_same H P, h2, f.1, fun d v hd e rd => k _ _ _ _ (f.2 d hd e) (resSh rd)⟩
  · exact f.elim
end
end PL
namespace PL
theorem szL : PySem.sizeLine = 16777216 := by decide
/-! ### lists, told by places -/
theorem enumD_map {β : Type} (F : D → β) (ds : List D) : (enumD 0 ds).map F = (List.range ds.length).map fun i => F (.tup [.int (i : Nat), ds.getD i .non]) := by
  refine List.ext_getElem? fun i => ?_
  rw [List.getElem?_map, List.getElem?_map, enumD_get]
  by_cases h : i < ds.length
  · simp [h]
  · rw [List.getElem?_eq_none (by omega), List.getElem?_eq_none (by simp; omega)]; rfl
theorem rangeD_map {β : Type} (F : D → β) (a : Int) (n : Nat) : (rangeD a n).map F = (List.range n).map fun i => F (.int (a + (i : Nat))) := by
  unfold rangeD; rw [List.map_map]; rfl
theorem enumD_mem {ds : List D} {d : D} (h : d ∈ enumD 0 ds) : ∃ i x, ds[i]? = some x ∧ d = .tup [.int (i : Nat), x] := by
  obtain ⟨i, hi⟩ := List.getElem?_of_mem h
  rw [enumD_get] at hi
  cases e : ds[i]? with
  | none => rw [e] at hi; cases hi
  | some x => rw [e] at hi; cases hi; exact ⟨i, x, e, by simp⟩
theorem getI {ns : List Int} {i : Nat} (h : i < ns.length) : (ns.map D.int)[i]? = some (.int (ns.getD i 0)) := by simp [h]
theorem atI_int {ns : List Int} {i : Int} (h0 : 0 ≤ i) (h : i < ns.length) : L2.atI (ns.map D.int) i = some (.int (ns.getD i.toNat 0)) := atI_nn h0 (getI (by omega))
/-! ### == of rows of numbers -/
theorem eqv_ints : ∀ a b : List Int, PySem.PyData.eqvAll (pyA (a.map D.int)) (pyA (b.map D.int)) = decide (a = b)
  | [], [] => by simp [pyA, PySem.PyData.eqvAll]
  | [], y :: b => by simp [pyA, PySem.PyData.eqvAll]
  | x :: a, [] => by simp [pyA, PySem.PyData.eqvAll]
  | x :: a, y :: b => by
    rw [List.map_cons, List.map_cons, pyA, pyA, PySem.PyData.eqvAll, eqv_ints a b]
    have : PySem.PyData.eqv (py (.int x)) (py (.int y)) = decide (x = y) := eqD_int x y
    rw [this]
    by_cases h : x = y <;> by_cases h2 : a = b <;> simp [h, h2]
theorem eqD_lsts (a b : List D) : eqD (.lst a) (.lst b) = PySem.PyData.eqvAll (pyA a) (pyA b) := by
  show PySem.PyData.eqv (.list (pyA a)) (.list (pyA b)) = _
  rw [PySem.PyData.eqv]
theorem eqD_tups (a b : List D) : eqD (.tup a) (.tup b) = PySem.PyData.eqvAll (pyA a) (pyA b) := by
  show PySem.PyData.eqv (.tuple (pyA a)) (.tuple (pyA b)) = _
  rw [PySem.PyData.eqv]
theorem eqD_li (a b : List Int) : eqD (.lst (a.map D.int)) (.lst (b.map D.int)) = decide (a = b) := by rw [eqD_lsts, eqv_ints]
theorem eqD_ti (a b : List Int) : eqD (.tup (a.map D.int)) (.tup (b.map D.int)) = decide (a = b) := by rw [eqD_tups, eqv_ints]
theorem eqD_t2 (a b c d : Int) : eqD (.tup [.int a, .int b]) (.tup [.int c, .int d]) = decide (a = c ∧ b = d) := by
  have := eqD_ti [a, b] [c, d]
  simp only [List.map_cons, List.map_nil] at this
  rw [this]
  simp
theorem eqD_nil (ds : List D) : eqD (.lst ds) (.lst []) = ds.isEmpty := by
  cases ds with
  | nil => rfl
  | cons d r => rfl
theorem sh_ints (n : Nat) (ns : List Int) : Sh (n + 1) (.lst (ns.map D.int)) := fun d hd => by
  obtain ⟨x, _, rfl⟩ := List.mem_map.mp hd
  cases n <;> trivial
theorem sh_lst0 (n : Nat) : Sh (n + 1) (.lst []) := fun d hd => by cases hd
theorem ok_ints (n : Nat) {ns : List Int} (h : ns.length < 16777216) : Ok (n + 1) (.lst (ns.map D.int)) := ⟨by rw [List.length_map]; exact h, fun d hd => by
  obtain ⟨x, _, rfl⟩ := List.mem_map.mp hd
  cases n <;> trivial⟩
theorem okInt (n : Nat) (i : Int) : Ok n (.int i) := by cases n <;> trivial
theorem okStr (n : Nat) (i : List Nat) : Ok n (.str i) := by cases n <;> trivial
theorem okBl (n : Nat) (i : Bool) : Ok n (.bl i) := by cases n <;> trivial
theorem okNon (n : Nat) : Ok n .non := by cases n <;> trivial
theorem okNil (n : Nat) : Ok (n + 1) (.lst []) := ⟨by show 0 < _; decide, fun d h => by cases h⟩
theorem ok_l2 {n : Nat} {a b : D} (h1 : Ok n a) (h2 : Ok n b) : Ok (n + 1) (.lst [a, b]) := ⟨by show 2 < _; decide, fun d hd => by
  simp only [List.mem_cons, List.not_mem_nil, or_false] at hd
  rcases hd with rfl | rfl
  · exact h1
  · exact h2⟩
theorem ok_t2 {n : Nat} {a b : D} (h1 : Ok n a) (h2 : Ok n b) : Ok (n + 1) (.tup [a, b]) := ⟨by show 2 < _; decide, fun d hd => by
  simp only [List.mem_cons, List.not_mem_nil, or_false] at hd
  rcases hd with rfl | rfl
  · exact h1
  · exact h2⟩
/-! ### a comprehension over a slot's own list, which is shared by it -/
theorem lc_filter2 {ti : TIp} {g : TGp} {tt : TTp} {te : TEp} {vs : List Nat} {env0 env : Ev} {K : Rv → Ev → Prop} {ds : List D} (F : D → Option D) (hi : ∀ K : List D → Ev → Prop, K ds env → ti env0 K)
    (hs : ∀ (d : D) (Q1 : D → Ev → Prop) (Q0 : Ev → Prop), d ∈ ds → (F d = none → Q0 env) → (∀ y, F d = some y → Q1 y env) → g d (wipeE env vs) fun e2 => tt e2 (lcT te vs env Q1 Q0)) (hl : ds.length ≤ PySem.sizeLine) (hk : K (.own (.lst (ds.filterMap F))) env) :
    qLc ti g tt te vs env0 K := by
  have h : qLc (fun _ K => K ds env) g tt te vs env K := lc_filter F (fun K k => k) hs hl hk
  rw [qLc_eq] at h ⊢
  exact hi _ h
/-! ### comprehensions that draw -/
theorem lc_draws {ti : TIp} {g : TGp} {te : TEp} {vs : List Nat} {K : Rv → Ev → Prop} {ds : List D} {n c B : Nat} (env : Nat → Ev) (Gd : D → Prop) (hi : ∀ K : List D → Ev → Prop, K ds (env n) → ti (env n) K)
    (hs : ∀ (m : Nat) (d : D) (Q : D → Ev → Prop), m + c ≤ B → d ∈ ds → (∀ y, Gd y → Q y (env (m + c))) → g d (wipeE (env m) vs) fun e2 => te e2 fun r e4 => share e4 r fun y e5 => Q y (back e5 (env m) vs))
    (hB : n + c * ds.length ≤ B) (hl : ds.length ≤ PySem.sizeLine) (hk : ∀ acc : List D, acc.length = ds.length → (∀ y ∈ acc, Gd y) → K (.own (.lst acc)) (env (n + c * ds.length))) :
    qLc ti g tYs te vs (env n) K := by
  rw [qLc_eq]
  refine hi _ ⟨fun k acc e => acc.length = k ∧ k ≤ ds.length ∧ (∀ y ∈ acc, Gd y) ∧ e = env (n + c * k), ⟨rfl, Nat.zero_le _, (fun y h => by cases h), rfl⟩, ?_, ?_⟩
  · rintro k d acc e hd ⟨ha, hk, hG, rfl⟩
    have hlt : k < ds.length := (List.getElem?_eq_some_iff.mp hd).1
    have hm : d ∈ ds := List.mem_of_getElem? hd
    have e1 : n + c * k + c = n + c * (k + 1) := by rw [Nat.mul_succ]; omega
    have e2 : c * (k + 1) ≤ c * ds.length := Nat.mul_le_mul_left c hlt
    refine hs (n + c * k) d (fun y e' => acc.length < PySem.sizeLine ∧ (acc ++ [y]).length = k + 1 ∧ k + 1 ≤ ds.length ∧ (∀ z ∈ acc ++ [y], Gd z) ∧ e' = env (n + c * (k + 1))) (by omega) hm fun y hy => ?_
    refine ⟨by omega, by simp [ha], hlt, fun z hz => ?_, by rw [e1]⟩
    rcases List.mem_append.mp hz with h | h
    · exact hG z h
    · rw [List.mem_singleton.mp h]; exact hy
  · rintro acc e ⟨ha, _, hG, rfl⟩
    exact hk acc ha hG
/-- the same, where the rows are drawn first -/
theorem lc_draws2 {α : Type} {ti : TIp} {g : TGp} {te : TEp} {vs : List Nat} {env0 : Ev} {K : Rv → Ev → Prop} {n c B : Nat} (env : Nat → Ev) (Gd : D → Prop) (p : α → Prop) (ds : α → List D) (hi : ∀ K : List D → Ev → Prop, (∀ v, p v → K (ds v) (env n)) → ti env0 K)
    (hs : ∀ (v : α) (m : Nat) (d : D) (Q : D → Ev → Prop), p v → m + c ≤ B → d ∈ ds v → (∀ y, Gd y → Q y (env (m + c))) → g d (wipeE (env m) vs) fun e2 => te e2 fun r e4 => share e4 r fun y e5 => Q y (back e5 (env m) vs))
    (hB : ∀ v, p v → n + c * (ds v).length ≤ B ∧ (ds v).length ≤ PySem.sizeLine) (hk : ∀ v, p v → ∀ acc : List D, acc.length = (ds v).length → (∀ y ∈ acc, Gd y) → K (.own (.lst acc)) (env (n + c * (ds v).length))) :
    qLc ti g tYs te vs env0 K := by
  rw [qLc_eq]
  refine hi _ fun v hv => ?_
  have h := lc_draws (K := K) (n := n) (B := B) (ti := fun _ K => K (ds v) (env n)) env Gd (fun K k => k) (fun m d Q => hs v m d Q hv) (hB v hv).1 (hB v hv).2 (hk v hv)
  rw [qLc_eq] at h
  exact h
theorem ints_good {P : Int → Prop} : ∀ {acc : List D}, (∀ y ∈ acc, ∃ i, y = .int i ∧ P i) → ∃ ns : List Int, acc = ns.map D.int ∧ ∀ x ∈ ns, P x
  | [], _ => ⟨[], rfl, fun x h => by cases h⟩
  | d :: r, h => by
    obtain ⟨i, rfl, hi⟩ := h d List.mem_cons_self
    obtain ⟨ns, rfl, hn⟩ := ints_good fun y hy => h y (List.mem_cons_of_mem _ hy)
    exact ⟨i :: ns, rfl, fun x hx => by
      rcases List.mem_cons.mp hx with rfl | hx
      · exact hi
      · exact hn x hx⟩
/-! ### slices -/
theorem cut_to {α : Type} (xs : List α) (k : Nat) : cutL xs none (some (k : Int)) = xs.take k := by
  unfold cutL
  rw [HT.sIx_none, HT.sIx_nat, List.drop_zero, Nat.sub_zero]
  by_cases h : k ≤ xs.length
  · rw [Nat.min_eq_left h]
  · rw [Nat.min_eq_right (by omega), List.take_of_length_le (Nat.le_refl _), List.take_of_length_le (by omega)]
theorem cut_from {α : Type} (xs : List α) (k : Nat) : cutL xs (some (k : Int)) none = xs.drop k := by
  unfold cutL
  rw [HT.sIx_none, HT.sIx_nat]
  by_cases h : k ≤ xs.length
  · rw [Nat.min_eq_left h, List.take_of_length_le (by rw [List.length_drop]; exact Nat.le_refl _)]
  · rw [Nat.min_eq_right (by omega), List.drop_of_length_le (Nat.le_refl _), List.drop_of_length_le (by omega)]; simp
theorem cut_toI {α : Type} (xs : List α) {k : Int} (h : 0 ≤ k) : cutL xs none (some k) = xs.take k.toNat := by
  have := cut_to xs k.toNat
  rwa [Int.toNat_of_nonneg h] at this
theorem cut_fromI {α : Type} (xs : List α) {k : Int} (h : 0 ≤ k) : cutL xs (some k) none = xs.drop k.toNat := by
  have := cut_from xs k.toNat
  rwa [Int.toNat_of_nonneg h] at this
end PL
namespace K44
open PL
/-- check_sum(weights, modulus, code); slots: 0:weights 1:modulus 2:code 3:at 4:digit -/
def r_check_sum : TSp := (sRet (pOp2 pMod (pCB bSum (pCons (qLc (pEnum (pCons (pVar 2) pNil)) (gTp 2 (gC (gNm 3) (gC (gNm 4) gN))) tYs (pOp2 pMul (pOp2 pIx (pVar 0) (pOp2 pMod (pVar 3) (pCB bLen (pCons (pVar 0) pNil)))) (pVar 4)) [3, 4]) pNil)) (pVar 1)))
/-- is_checked(weights, modulus, code); slots: 0:weights 1:modulus 2:code -/
def r_is_checked (P_check_sum : PSp) : TSp := (sRet (pOp2 pEq (pCall P_check_sum (pCons (pVar 0) (pCons (pVar 1) (pCons (pVar 2) pNil)))) (pC (.int 0))))
/-- with_check(weights, modulus, code); slots: 0:weights 1:modulus 2:code 3:digit -/
def r_with_check (P_is_checked : PSp) : TSp := (sSq (sFor (pRng1 (pCons (pCB bMin (pCons (pC (.int 10)) (pCons (pVar 1) pNil))) pNil)) (gNm 3) (sIf (pTru (pCall P_is_checked (pCons (pVar 0) (pCons (pVar 1) (pCons (pOp2 pAdd (pCB bList (pCons (pVar 2) pNil)) (pLst (pCons (pVar 3) pNil))) pNil))))) (sRet (pOp2 pAdd (pCB bList (pCons (pVar 2) pNil)) (pLst (pCons (pVar 3) pNil)))) sNx))
    (sRet (pC .non)))
/-- unnoticed_digits(weights, modulus, many); slots: 0:weights 1:modulus 2:many 3:found 4:at 5:by -/
def r_unnoticed_digits : TSp := (sSq (sSet 3 (pLst pNil))
    (sSq (sFor (pRng1 (pCons (pVar 2) pNil)) (gNm 4) (sFor (pRng2 (pCons (pC (.int 1)) (pCons (pC (.int 10)) pNil))) (gNm 5) (sIf (pTst (pOp2 pEq (pOp2 pMod (pOp2 pMul (pOp2 pIx (pVar 0) (pOp2 pMod (pVar 4) (pCB bLen (pCons (pVar 0) pNil)))) (pVar 5)) (pVar 1)) (pC (.int 0)))) (sEx (pMut 3 fAppend (pCons (pTup (pCons (pVar 4) (pCons (pVar 5) pNil))) pNil))) sNx)))
    (sRet (pVar 3))))
/-- unnoticed_swaps(weights, modulus, many); slots: 0:weights 1:modulus 2:many 3:found 4:at 5:step 6:by -/
def r_unnoticed_swaps : TSp := (sSq (sSet 3 (pLst pNil))
    (sSq (sFor (pRng1 (pCons (pOp2 pSub (pVar 2) (pC (.int 1))) pNil)) (gNm 4) (sSq (sSet 5 (pOp2 pSub (pOp2 pIx (pVar 0) (pOp2 pMod (pOp2 pAdd (pVar 4) (pC (.int 1))) (pCB bLen (pCons (pVar 0) pNil)))) (pOp2 pIx (pVar 0) (pOp2 pMod (pVar 4) (pCB bLen (pCons (pVar 0) pNil))))))
    (sFor (pRng2 (pCons (pC (.int 1)) (pCons (pC (.int 10)) pNil))) (gNm 6) (sIf (pTst (pOp2 pEq (pOp2 pMod (pOp2 pMul (pVar 5) (pVar 6)) (pVar 1)) (pC (.int 0)))) (sEx (pMut 3 fAppend (pCons (pTup (pCons (pVar 4) (pCons (pVar 6) pNil))) pNil))) sNx))))
    (sRet (pVar 3))))
/-- notices_digits(weights, modulus, many); slots: 0:weights 1:modulus 2:many 3:at -/
def r_notices_digits : TSp := (sRet (pCB bAll (pCons (qLc (pRng1 (pCons (pVar 2) pNil)) (gNm 3) tYs (pOp2 pGt (pOp2 pFdiv (pVar 1) (pCB bGcd (pCons (pOp2 pIx (pVar 0) (pOp2 pMod (pVar 3) (pCB bLen (pCons (pVar 0) pNil)))) (pCons (pVar 1) pNil)))) (pC (.int 9))) [3]) pNil)))
/-- notices_swaps(weights, modulus, many); slots: 0:weights 1:modulus 2:many 3:at 4:step -/
def r_notices_swaps : TSp := (sSq (sFor (pRng1 (pCons (pOp2 pSub (pVar 2) (pC (.int 1))) pNil)) (gNm 3) (sSq (sSet 4 (pOp2 pSub (pOp2 pIx (pVar 0) (pOp2 pMod (pOp2 pAdd (pVar 3) (pC (.int 1))) (pCB bLen (pCons (pVar 0) pNil)))) (pOp2 pIx (pVar 0) (pOp2 pMod (pVar 3) (pCB bLen (pCons (pVar 0) pNil))))))
    (sIf (pTst (pOp2 pLe (pOp2 pFdiv (pVar 1) (pCB bGcd (pCons (pVar 4) (pCons (pVar 1) pNil)))) (pC (.int 9)))) (sRet (pC (.bl false))) sNx)))
    (sRet (pC (.bl true))))
/-- least_modulus(weights, many); slots: 0:weights 1:many 2:modulus -/
def r_least_modulus (P_notices_digits : PSp) (P_notices_swaps : PSp) : TSp := (sSq (sFor (pRng2 (pCons (pC (.int 2)) (pCons (pC (.int 1001)) pNil))) (gNm 2) (sIf (pAnd (pTru (pCall P_notices_digits (pCons (pVar 0) (pCons (pVar 2) (pCons (pVar 1) pNil))))) (pTru (pCall P_notices_swaps (pCons (pVar 0) (pCons (pVar 2) (pCons (pVar 1) pNil)))))) (sRet (pVar 2)) sNx))
    (sRet (pC .non)))
/-- lost_digit(weights, modulus, code, place); slots: 0:weights 1:modulus 2:code 3:place 4:found 5:digit -/
def r_lost_digit (P_is_checked : PSp) : TSp := (sSq (sSet 4 (pLst pNil))
    (sSq (sFor (pRng1 (pCons (pC (.int 10)) pNil)) (gNm 5) (sIf (pTru (pCall P_is_checked (pCons (pVar 0) (pCons (pVar 1) (pCons (pOp2 pAdd (pOp2 pAdd (pCB bList (pCons (pSlc (pVar 2) oNo (oSome (pVar 3))) pNil)) (pLst (pCons (pVar 5) pNil))) (pCB bList (pCons (pSlc (pVar 2) (oSome (pOp2 pAdd (pVar 3) (pC (.int 1)))) oNo) pNil))) pNil))))) (sEx (pMut 4 fAppend (pCons (pVar 5) pNil))) sNx))
    (sRet (pVar 4))))
/-- mended(weights, modulus, code); slots: 0:weights 1:modulus 2:code 3:found 4:at 5:own 6:digit -/
def r_mended (P_lost_digit : PSp) : TSp := (sSq (sSet 3 (pLst pNil))
    (sSq (sFor (pEnum (pCons (pVar 2) pNil)) (gTp 2 (gC (gNm 4) (gC (gNm 5) gN))) (sFor (pIt (pCall P_lost_digit (pCons (pVar 0) (pCons (pVar 1) (pCons (pVar 2) (pCons (pVar 4) pNil)))))) (gNm 6) (sIf (pTst (pOp2 pNe (pVar 6) (pVar 5))) (sEx (pMut 3 fAppend (pCons (pOp2 pAdd (pOp2 pAdd (pCB bList (pCons (pSlc (pVar 2) oNo (oSome (pVar 4))) pNil)) (pLst (pCons (pVar 6) pNil))) (pCB bList (pCons (pSlc (pVar 2) (oSome (pOp2 pAdd (pVar 4) (pC (.int 1)))) oNo) pNil))) pNil))) sNx)))
    (sRet (pCB bSorted (pCons (pVar 3) pNil)))))
/-- judge_slip(weights, modulus, code, other); slots: 0:weights 1:modulus 2:code 3:other -/
def r_judge_slip (P_is_checked : PSp) : TSp := (sSq (sIf (pOr (pTst (pOp2 pNe (pCB bLen (pCons (pVar 2) pNil)) (pCB bLen (pCons (pVar 3) pNil)))) (pTst (pOp2 pEq (pCB bList (pCons (pVar 2) pNil)) (pCB bList (pCons (pVar 3) pNil))))) (sRet (pC (.bl false))) sNx)
    (sRet (pAndV (pCall P_is_checked (pCons (pVar 0) (pCons (pVar 1) (pCons (pVar 2) pNil)))) (pCall P_is_checked (pCons (pVar 0) (pCons (pVar 1) (pCons (pVar 3) pNil)))))))
/-- _law_sum(weights, modulus, code); slots: 0:weights 1:modulus 2:code 3:k -/
def r__law_sum : TSp := (sRet (pOp2 pMod (pCB bInt (pCons (pCB bSum (pCons (qLc (pRng1 (pCons (pCB bLen (pCons (pVar 2) pNil)) pNil)) (gNm 3) tYs (pOp2 pMul (pOp2 pIx (pVar 0) (pOp2 pMod (pCB bInt (pCons (pVar 3) pNil)) (pCB bLen (pCons (pVar 0) pNil)))) (pOp2 pIx (pVar 2) (pVar 3))) [3]) pNil)) pNil)) (pVar 1)))
/-- _law_digits(weights, modulus, many); slots: 0:weights 1:modulus 2:many 3:found 4:place 5:gap -/
def r__law_digits : TSp := (sSq (sSet 3 (pLst pNil))
    (sSq (sFor (pRng1 (pCons (pVar 2) pNil)) (gNm 4) (sSet 3 (pOp2 pAdd (pVar 3) (qLc (pRng2 (pCons (pC (.int 1)) (pCons (pC (.int 10)) pNil))) (gNm 5) (pTst (pOp2 pEq (pOp2 pMod (pCB bInt (pCons (pOp2 pMul (pOp2 pIx (pVar 0) (pOp2 pMod (pCB bInt (pCons (pVar 4) pNil)) (pCB bLen (pCons (pVar 0) pNil)))) (pVar 5)) pNil)) (pVar 1)) (pC (.int 0)))) (pTup (pCons (pVar 4) (pCons (pVar 5) pNil))) [5]))))
    (sRet (pVar 3))))
/-- _law_swaps(weights, modulus, many); slots: 0:weights 1:modulus 2:many 3:found 4:place 5:apart 6:gap -/
def r__law_swaps : TSp := (sSq (sSet 3 (pLst pNil))
    (sSq (sFor (pRng1 (pCons (pOp2 pSub (pVar 2) (pC (.int 1))) pNil)) (gNm 4) (sSq (sSet 5 (pOp2 pSub (pOp2 pIx (pVar 0) (pOp2 pMod (pCB bInt (pCons (pVar 4) pNil)) (pCB bLen (pCons (pVar 0) pNil)))) (pOp2 pIx (pVar 0) (pOp2 pMod (pCB bInt (pCons (pOp2 pAdd (pVar 4) (pC (.int 1))) pNil)) (pCB bLen (pCons (pVar 0) pNil))))))
    (sSet 3 (pOp2 pAdd (pVar 3) (qLc (pRng2 (pCons (pC (.int 1)) (pCons (pC (.int 10)) pNil))) (gNm 6) (pTst (pOp2 pEq (pOp2 pMod (pCB bInt (pCons (pOp2 pMul (pVar 5) (pVar 6)) pNil)) (pVar 1)) (pC (.int 0)))) (pTup (pCons (pVar 4) (pCons (pVar 6) pNil))) [6])))))
    (sRet (pVar 3))))
/-- law(script); slots: 0:script 1:pool 2:weights 3:k 4:modulus 5:many 6:code 7:total 8:good 9:digit 10:digits 11:swaps 12:near 13:every 14:one 15:gap 16:other 17:due 18:few 19:least 20:number 21:told -/
def r_law (P__law_pool : PSp) (P__law_draw : PSi) (P__law_next : PSi) (P__law_sum : PSp) (P__law_same : PSp) (P_check_sum : PSp) (P_is_checked : PSp) (P_with_check : PSp) (P__law_digits : PSp) (P__law_swaps : PSp) (P_unnoticed_digits : PSp) (P_unnoticed_swaps : PSp) (P_notices_digits : PSp) (P_notices_swaps : PSp) (P_mended : PSp) (P_judge_slip : PSp) (P_lost_digit : PSp) (P_least_modulus : PSp) : TSp := (sSq (sSet 1 (pCall P__law_pool (pCons (pVar 0) pNil)))
    (sSq (sSet 2 (qLc (pRng1 (pCons (pOp2 pAdd (pC (.int 1)) (pCallI 1 P__law_draw (pCons (pC (.int 4)) pNil))) pNil)) (gNm 3) tYs (pOp2 pAdd (pC (.int 1)) (pCallI 1 P__law_draw (pCons (pC (.int 12)) pNil))) [3]))
    (sSq (sAsg (pTup (pCons (pOp2 pAdd (pC (.int 2)) (pCallI 1 P__law_draw (pCons (pC (.int 12)) pNil))) (pCons (pOp2 pAdd (pC (.int 1)) (pCallI 1 P__law_draw (pCons (pC (.int 6)) pNil))) pNil))) (gTp 2 (gC (gNm 4) (gC (gNm 5) gN))))
    (sSq (sSet 6 (qLc (pRng1 (pCons (pVar 5) pNil)) (gNm 3) tYs (pCallI 1 P__law_draw (pCons (pC (.int 10)) pNil)) [3]))
    (sSq (sEx (pCallI 1 P__law_next pNil))
    (sSq (sSet 7 (pCall P__law_sum (pCons (pVar 2) (pCons (pVar 4) (pCons (pVar 6) pNil)))))
    (sSq (sIf (pNot (pTru (pCall P__law_same (pCons (pLst (pCons (pCall P_check_sum (pCons (pVar 2) (pCons (pVar 4) (pCons (pVar 6) pNil)))) (pCons (pCall P_is_checked (pCons (pVar 2) (pCons (pVar 4) (pCons (pVar 6) pNil)))) pNil))) (pCons (pLst (pCons (pVar 7) (pCons (pOp2 pEq (pVar 7) (pC (.int 0))) pNil))) pNil))))) (sRet (pC (.bl false))) sNx)
    (sSq (sSet 8 (qLc (pRng1 (pCons (pCB bMin (pCons (pC (.int 10)) (pCons (pVar 4) pNil))) pNil)) (gNm 9) (pTst (pOp2 pEq (pCall P__law_sum (pCons (pVar 2) (pCons (pVar 4) (pCons (pOp2 pAdd (pVar 6) (pLst (pCons (pVar 9) pNil))) pNil)))) (pC (.int 0)))) (pVar 9) [9]))
    (sSq (sIf (pNot (pTru (pCall P__law_same (pCons (pCall P_with_check (pCons (pVar 2) (pCons (pVar 4) (pCons (pVar 6) pNil)))) (pCons (pIf (pTst (pOp2 pNe (pVar 8) (pLst pNil))) (pOp2 pAdd (pVar 6) (pSlc (pVar 8) oNo (oSome (pC (.int 1))))) (pC .non)) pNil))))) (sRet (pC (.bl false))) sNx)
    (sSq (sPar2 10 11 (pCall P__law_digits (pCons (pVar 2) (pCons (pVar 4) (pCons (pVar 5) pNil)))) (pCall P__law_swaps (pCons (pVar 2) (pCons (pVar 4) (pCons (pVar 5) pNil)))))
    (sSq (sIf (pNot (pTru (pCall P__law_same (pCons (pLst (pCons (pCall P_unnoticed_digits (pCons (pVar 2) (pCons (pVar 4) (pCons (pVar 5) pNil)))) (pCons (pCall P_unnoticed_swaps (pCons (pVar 2) (pCons (pVar 4) (pCons (pVar 5) pNil)))) pNil))) (pCons (pLst (pCons (pVar 10) (pCons (pVar 11) pNil))) pNil))))) (sRet (pC (.bl false))) sNx)
    (sSq (sIf (pNot (pTru (pCall P__law_same (pCons (pLst (pCons (pCall P_notices_digits (pCons (pVar 2) (pCons (pVar 4) (pCons (pVar 5) pNil)))) (pCons (pCall P_notices_swaps (pCons (pVar 2) (pCons (pVar 4) (pCons (pVar 5) pNil)))) pNil))) (pCons (pLst (pCons (pOp2 pEq (pVar 10) (pLst pNil)) (pCons (pOp2 pEq (pVar 11) (pLst pNil)) pNil))) pNil))))) (sRet (pC (.bl false))) sNx)
    (sSq (sSet 12 (pLst pNil))
    (sSq (sFor (pRng1 (pCons (pVar 5) pNil)) (gNm 3) (sSq (sSet 13 (qLc (pRng1 (pCons (pC (.int 10)) pNil)) (gNm 9) (pTst (pOp2 pNe (pVar 9) (pOp2 pIx (pVar 6) (pVar 3)))) (pOp2 pAdd (pOp2 pAdd (pSlc (pVar 6) oNo (oSome (pVar 3))) (pLst (pCons (pVar 9) pNil))) (pSlc (pVar 6) (oSome (pOp2 pAdd (pVar 3) (pC (.int 1)))) oNo)) [9]))
    (sSet 12 (pOp2 pAdd (pVar 12) (qLc (pIt (pVar 13)) (gNm 14) (pTst (pOp2 pEq (pCall P__law_sum (pCons (pVar 2) (pCons (pVar 4) (pCons (pVar 14) pNil)))) (pC (.int 0)))) (pVar 14) [14])))))
    (sSq (sIf (pNot (pTru (pCall P__law_same (pCons (pCall P_mended (pCons (pVar 2) (pCons (pVar 4) (pCons (pVar 6) pNil)))) (pCons (pCB bSorted (pCons (pVar 12) pNil)) pNil))))) (sRet (pC (.bl false))) sNx)
    (sSq (sFor (pRng1 (pCons (pVar 5) pNil)) (gNm 3) (sSq (sFor (pRng2 (pCons (pC (.int 1)) (pCons (pC (.int 10)) pNil))) (gNm 15) (sIf (pTst (pOp2 pLt (pOp2 pAdd (pOp2 pIx (pVar 6) (pVar 3)) (pVar 15)) (pC (.int 10)))) (sSq (sSet 16 (pOp2 pAdd (pOp2 pAdd (pSlc (pVar 6) oNo (oSome (pVar 3))) (pLst (pCons (pOp2 pAdd (pOp2 pIx (pVar 6) (pVar 3)) (pVar 15)) pNil))) (pSlc (pVar 6) (oSome (pOp2 pAdd (pVar 3) (pC (.int 1)))) oNo)))
    (sSq (sIf (pTst (pOp2 pNe (pOp2 pEq (pCall P__law_sum (pCons (pVar 2) (pCons (pVar 4) (pCons (pVar 16) pNil)))) (pVar 7)) (pOp2 (pIn false) (pTup (pCons (pVar 3) (pCons (pVar 15) pNil))) (pVar 10)))) (sRet (pC (.bl false))) sNx)
    (sIf (pNot (pTru (pCall P__law_same (pCons (pCall P_judge_slip (pCons (pVar 2) (pCons (pVar 4) (pCons (pVar 6) (pCons (pVar 16) pNil))))) (pCons (pAndV (pOp2 pEq (pVar 7) (pC (.int 0))) (pOp2 (pIn false) (pTup (pCons (pVar 3) (pCons (pVar 15) pNil))) (pVar 10))) pNil))))) (sRet (pC (.bl false))) sNx))) sNx))
    (sSq (sIf (pTst (pOp2 pEq (pVar 7) (pC (.int 0)))) (sSq (sSet 17 (qLc (pRng1 (pCons (pC (.int 10)) pNil)) (gNm 9) (pTst (pOp2 pEq (pCall P__law_sum (pCons (pVar 2) (pCons (pVar 4) (pCons (pOp2 pAdd (pOp2 pAdd (pSlc (pVar 6) oNo (oSome (pVar 3))) (pLst (pCons (pVar 9) pNil))) (pSlc (pVar 6) (oSome (pOp2 pAdd (pVar 3) (pC (.int 1)))) oNo)) pNil)))) (pC (.int 0)))) (pVar 9) [9]))
    (sIf (pNot (pTru (pCall P__law_same (pCons (pCall P_lost_digit (pCons (pVar 2) (pCons (pVar 4) (pCons (pVar 6) (pCons (pVar 3) pNil))))) (pCons (pVar 17) pNil))))) (sRet (pC (.bl false))) sNx)) sNx)
    (sIf (pAnd (pTst (pOp2 pLt (pOp2 pAdd (pVar 3) (pC (.int 1))) (pVar 5))) (pTst (pOp2 pNe (pOp2 pIx (pVar 6) (pVar 3)) (pOp2 pIx (pVar 6) (pOp2 pAdd (pVar 3) (pC (.int 1))))))) (sSq (sSet 16 (pOp2 pAdd (pOp2 pAdd (pSlc (pVar 6) oNo (oSome (pVar 3))) (pLst (pCons (pOp2 pIx (pVar 6) (pOp2 pAdd (pVar 3) (pC (.int 1)))) (pCons (pOp2 pIx (pVar 6) (pVar 3)) pNil)))) (pSlc (pVar 6) (oSome (pOp2 pAdd (pVar 3) (pC (.int 2)))) oNo)))
    (sIf (pTst (pOp2 pNe (pOp2 pEq (pCall P__law_sum (pCons (pVar 2) (pCons (pVar 4) (pCons (pVar 16) pNil)))) (pVar 7)) (pOp2 (pIn false) (pTup (pCons (pVar 3) (pCons (pCB bAbs (pCons (pOp2 pSub (pOp2 pIx (pVar 6) (pVar 3)) (pOp2 pIx (pVar 6) (pOp2 pAdd (pVar 3) (pC (.int 1))))) pNil)) pNil))) (pVar 11)))) (sRet (pC (.bl false))) sNx)) sNx))))
    (sSq (sSet 18 (pOp2 pAdd (pC (.int 1)) (pCallI 1 P__law_draw (pCons (pC (.int 3)) pNil))))
    (sSq (sSet 19 (qLc (pRng2 (pCons (pC (.int 2)) (pCons (pC (.int 60)) pNil))) (gNm 20) (pAnd (pTst (pOp2 pEq (pCall P__law_digits (pCons (pVar 2) (pCons (pVar 20) (pCons (pVar 18) pNil)))) (pLst pNil))) (pTst (pOp2 pEq (pCall P__law_swaps (pCons (pVar 2) (pCons (pVar 20) (pCons (pVar 18) pNil)))) (pLst pNil)))) (pVar 20) [20]))
    (sSq (sSet 21 (pCall P_least_modulus (pCons (pVar 2) (pCons (pVar 18) pNil))))
    (sSq (sIf (pTst (pOp2 pNe (pVar 19) (pLst pNil))) (sRet (pCall P__law_same (pCons (pVar 21) (pCons (pOp2 pIx (pVar 19) (pC (.int 0))) pNil)))) sNx)
    (sRet (pOrV (pOp2 (pIs false) (pVar 21) (pC .non)) (pOp2 pGt (pVar 21) (pC (.int 59)))))))))))))))))))))))))
end K44
namespace K44
open PySem PySem.Spec PyProof.Rows L2 PL
def topS (i : Nat) : Stmt := PySem.Challenge.pw_inkwright_k44_whole_codes_that_are_check.main.body.getD i (.Pass ⟨0, 0, 0, 0⟩)
abbrev s_check_sum : Stmt := topS 2
abbrev N_check_sum : List Str := ["weights", "modulus", "code", "at", "digit"]
theorem sc_check_sum : FnScope N_check_sum ["weights", "modulus", "code"] (defScope s_check_sum) := ⟨rfl, rfl, rfl, by decide +kernel, rfl, by decide +kernel, by decide +kernel⟩
abbrev s_is_checked : Stmt := topS 3
abbrev N_is_checked : List Str := ["weights", "modulus", "code"]
theorem sc_is_checked : FnScope N_is_checked ["weights", "modulus", "code"] (defScope s_is_checked) := ⟨rfl, rfl, rfl, by decide +kernel, rfl, by decide +kernel, by decide +kernel⟩
abbrev s_with_check : Stmt := topS 4
abbrev N_with_check : List Str := ["weights", "modulus", "code", "digit"]
theorem sc_with_check : FnScope N_with_check ["weights", "modulus", "code"] (defScope s_with_check) := ⟨rfl, rfl, rfl, by decide +kernel, rfl, by decide +kernel, by decide +kernel⟩
abbrev s_unnoticed_digits : Stmt := topS 5
abbrev N_unnoticed_digits : List Str := ["weights", "modulus", "many", "found", "at", "by"]
theorem sc_unnoticed_digits : FnScope N_unnoticed_digits ["weights", "modulus", "many"] (defScope s_unnoticed_digits) := ⟨rfl, rfl, rfl, by decide +kernel, rfl, by decide +kernel, by decide +kernel⟩
abbrev s_unnoticed_swaps : Stmt := topS 6
abbrev N_unnoticed_swaps : List Str := ["weights", "modulus", "many", "found", "at", "step", "by"]
theorem sc_unnoticed_swaps : FnScope N_unnoticed_swaps ["weights", "modulus", "many"] (defScope s_unnoticed_swaps) := ⟨rfl, rfl, rfl, by decide +kernel, rfl, by decide +kernel, by decide +kernel⟩
abbrev s_notices_digits : Stmt := topS 7
abbrev N_notices_digits : List Str := ["weights", "modulus", "many", "at"]
theorem sc_notices_digits : FnScope N_notices_digits ["weights", "modulus", "many"] (defScope s_notices_digits) := ⟨rfl, rfl, rfl, by decide +kernel, rfl, by decide +kernel, by decide +kernel⟩
abbrev s_notices_swaps : Stmt := topS 8
abbrev N_notices_swaps : List Str := ["weights", "modulus", "many", "at", "step"]
theorem sc_notices_swaps : FnScope N_notices_swaps ["weights", "modulus", "many"] (defScope s_notices_swaps) := ⟨rfl, rfl, rfl, by decide +kernel, rfl, by decide +kernel, by decide +kernel⟩
abbrev s_least_modulus : Stmt := topS 9
abbrev N_least_modulus : List Str := ["weights", "many", "modulus"]
theorem sc_least_modulus : FnScope N_least_modulus ["weights", "many"] (defScope s_least_modulus) := ⟨rfl, rfl, rfl, by decide +kernel, rfl, by decide +kernel, by decide +kernel⟩
abbrev s_lost_digit : Stmt := topS 10
abbrev N_lost_digit : List Str := ["weights", "modulus", "code", "place", "found", "digit"]
theorem sc_lost_digit : FnScope N_lost_digit ["weights", "modulus", "code", "place"] (defScope s_lost_digit) := ⟨rfl, rfl, rfl, by decide +kernel, rfl, by decide +kernel, by decide +kernel⟩
abbrev s_mended : Stmt := topS 11
abbrev N_mended : List Str := ["weights", "modulus", "code", "found", "at", "own", "digit"]
theorem sc_mended : FnScope N_mended ["weights", "modulus", "code"] (defScope s_mended) := ⟨rfl, rfl, rfl, by decide +kernel, rfl, by decide +kernel, by decide +kernel⟩
abbrev s_judge_slip : Stmt := topS 13
abbrev N_judge_slip : List Str := ["weights", "modulus", "code", "other"]
theorem sc_judge_slip : FnScope N_judge_slip ["weights", "modulus", "code", "other"] (defScope s_judge_slip) := ⟨rfl, rfl, rfl, by decide +kernel, rfl, by decide +kernel, by decide +kernel⟩
abbrev s__law_mixed : Stmt := topS 15
abbrev N__law_mixed : List Str := ["number", "place", "first", "second", "third"]
theorem sc__law_mixed : FnScope N__law_mixed ["number", "place"] (defScope s__law_mixed) := ⟨rfl, rfl, rfl, by decide +kernel, rfl, by decide +kernel, by decide +kernel⟩
abbrev s__law_rest : Stmt := topS 16
abbrev N__law_rest : List Str := ["script", "place", "turns", "number"]
theorem sc__law_rest : FnScope N__law_rest ["script", "place", "turns"] (defScope s__law_rest) := ⟨rfl, rfl, rfl, by decide +kernel, rfl, by decide +kernel, by decide +kernel⟩
abbrev s__law_pool : Stmt := topS 17
abbrev N__law_pool : List Str := ["script"]
theorem sc__law_pool : FnScope N__law_pool ["script"] (defScope s__law_pool) := ⟨rfl, rfl, rfl, by decide +kernel, rfl, by decide +kernel, by decide +kernel⟩
abbrev s__law_next : Stmt := topS 18
abbrev N__law_next : List Str := ["pool"]
theorem sc__law_next : FnScope N__law_next ["pool"] (defScope s__law_next) := ⟨rfl, rfl, rfl, by decide +kernel, rfl, by decide +kernel, by decide +kernel⟩
abbrev s__law_draw : Stmt := topS 19
abbrev N__law_draw : List Str := ["pool", "limit", "value"]
theorem sc__law_draw : FnScope N__law_draw ["pool", "limit"] (defScope s__law_draw) := ⟨rfl, rfl, rfl, by decide +kernel, rfl, by decide +kernel, by decide +kernel⟩
abbrev s__law_same : Stmt := topS 20
abbrev N__law_same : List Str := ["answer", "due", "key", "k"]
theorem sc__law_same : FnScope N__law_same ["answer", "due"] (defScope s__law_same) := ⟨rfl, rfl, rfl, by decide +kernel, rfl, by decide +kernel, by decide +kernel⟩
abbrev s__law_sum : Stmt := topS 21
abbrev N__law_sum : List Str := ["weights", "modulus", "code", "k"]
theorem sc__law_sum : FnScope N__law_sum ["weights", "modulus", "code"] (defScope s__law_sum) := ⟨rfl, rfl, rfl, by decide +kernel, rfl, by decide +kernel, by decide +kernel⟩
abbrev s__law_digits : Stmt := topS 22
abbrev N__law_digits : List Str := ["weights", "modulus", "many", "found", "place", "gap"]
theorem sc__law_digits : FnScope N__law_digits ["weights", "modulus", "many"] (defScope s__law_digits) := ⟨rfl, rfl, rfl, by decide +kernel, rfl, by decide +kernel, by decide +kernel⟩
abbrev s__law_swaps : Stmt := topS 23
abbrev N__law_swaps : List Str := ["weights", "modulus", "many", "found", "place", "apart", "gap"]
theorem sc__law_swaps : FnScope N__law_swaps ["weights", "modulus", "many"] (defScope s__law_swaps) := ⟨rfl, rfl, rfl, by decide +kernel, rfl, by decide +kernel, by decide +kernel⟩
abbrev s_law : Stmt := topS 24
abbrev N_law : List Str := ["script", "pool", "weights", "k", "modulus", "many", "code", "total", "good", "digit", "digits", "swaps", "near", "every", "one", "gap", "other", "due", "few", "least", "number", "told"]
theorem sc_law : FnScope N_law ["script"] (defScope s_law) := ⟨rfl, rfl, rfl, by decide +kernel, rfl, by decide +kernel, by decide +kernel⟩
section
variable {P : Program} {w : World} {K : PySem.W.Frag} {mg : Str → Option Value} {base : Heap}
theorem b_check_sum {k : Nat} (m_enumerate : mg "enumerate" = none) (m_len : mg "len" = none) (m_sum : mg "sum" = none) : Body P w K mg base k "check_sum" N_check_sum s_check_sum (r_check_sum) := fun f cdv A outer s H E' hr =>
  (ss_one (s_ret (e_op o_mod (e_callB (b_sum rfl) (by rfl) m_sum (by decide +kernel) (a_cons (e_lcq rfl sc_check_sum.nd (i_enum (by rfl) m_enumerate (a_cons (ev 2) a_nil)) (own := [("at", 3), ("digit", 4)]) (blkOk_by (N := N_check_sum) (sc := defScope s_check_sum) (by decide +kernel)) (fun _ _ _ _ _ => (g_tp rfl (gs_cons (g_nm (i := 3) sc_check_sum.nd) (gs_cons (g_nm (i := 4) sc_check_sum.nd) gs_nil)))) (fun _ _ _ _ _ => ts_nil) (fun _ _ _ _ _ => (e_op o_mul (e_ix (x_ix (hu1 hr)) (ev 0) (e_op o_mod (ev 3) (e_callB b_len (by rfl) m_len PySem.boot_len (a_cons (ev 0) a_nil)))) (ev 4)))) a_nil)) (ev 1))))
theorem b_is_checked {k : Nat} {P_check_sum : PSp} (g_check_sum : Got P w K mg base k "check_sum" ["weights", "modulus", "code"] (spOf K P_check_sum)) : Body P w K mg base k "is_checked" N_is_checked s_is_checked (r_is_checked P_check_sum) := fun f cdv A outer s H E' hr =>
  (ss_one (s_ret (e_cmp (o_eq (hu64 hr)) (e_fn g_check_sum hr (by rfl) (a_cons (ev 0) (a_cons (ev 1) (a_cons (ev 2) a_nil)))) e_int)))
theorem b_with_check {k : Nat} {P_is_checked : PSp} (g_is_checked : Got P w K mg base k "is_checked" ["weights", "modulus", "code"] (spOf K P_is_checked)) (m_min : mg "min" = none) (m_range : mg "range" = none) (m_list : mg "list" = none) : Body P w K mg base k "with_check" N_with_check s_with_check (r_with_check P_is_checked) := fun f cdv A outer s H E' hr =>
  (ss_cons (s_for PassesOwn.never rfl (i_range1 (by rfl) m_range (a_cons (e_callB (b_min rfl) (by rfl) m_min (by decide +kernel) (a_cons e_int (a_cons (ev 1) a_nil))) a_nil)) (g_nm (i := 3) sc_with_check.nd) (ss_one (s_if (t_tru (e_fn g_is_checked hr (by rfl) (a_cons (ev 0) (a_cons (ev 1) (a_cons (e_op o_add (e_callTy (b_list rfl) (by rfl) m_list (by decide +kernel) (a_cons (ev 2) a_nil)) (e_lst (a_cons (ev 3) a_nil))) a_nil))))) (ss_one (s_ret (e_op o_add (e_callTy (b_list rfl) (by rfl) m_list (by decide +kernel) (a_cons (ev 2) a_nil)) (e_lst (a_cons (ev 3) a_nil))))) ss_nil)))
    (ss_one (s_ret e_non)))
theorem b_unnoticed_digits {k : Nat} (m_range : mg "range" = none) (m_len : mg "len" = none) : Body P w K mg base k "unnoticed_digits" N_unnoticed_digits s_unnoticed_digits (r_unnoticed_digits) := fun f cdv A outer s H E' hr =>
  (ss_cons (s_set 3 sc_unnoticed_digits.nd (e_lst a_nil))
    (ss_cons (s_for PassesOwn.never rfl (i_range1 (by rfl) m_range (a_cons (ev 2) a_nil)) (g_nm (i := 4) sc_unnoticed_digits.nd) (ss_one (s_for PassesOwn.never rfl (i_range2 (by rfl) m_range (a_cons e_int (a_cons e_int a_nil))) (g_nm (i := 5) sc_unnoticed_digits.nd) (ss_one (s_if (t_cmp (o_eq (hu64 hr)) (e_op o_mod (e_op o_mul (e_ix (x_ix (hu1 hr)) (ev 0) (e_op o_mod (ev 4) (e_callB b_len (by rfl) m_len PySem.boot_len (a_cons (ev 0) a_nil)))) (ev 5)) (ev 1)) e_int) (ss_one (s_ex (e_append 3 (e_tup (a_cons (ev 4) (a_cons (ev 5) a_nil)))))) ss_nil)))))
    (ss_one (s_ret (ev 3)))))
theorem b_unnoticed_swaps {k : Nat} (m_range : mg "range" = none) (m_len : mg "len" = none) : Body P w K mg base k "unnoticed_swaps" N_unnoticed_swaps s_unnoticed_swaps (r_unnoticed_swaps) := fun f cdv A outer s H E' hr =>
  (ss_cons (s_set 3 sc_unnoticed_swaps.nd (e_lst a_nil))
    (ss_cons (s_for PassesOwn.never rfl (i_range1 (by rfl) m_range (a_cons (e_op o_sub (ev 2) e_int) a_nil)) (g_nm (i := 4) sc_unnoticed_swaps.nd) (ss_cons (s_set 5 sc_unnoticed_swaps.nd (e_op o_sub (e_ix (x_ix (hu1 hr)) (ev 0) (e_op o_mod (e_op o_add (ev 4) e_int) (e_callB b_len (by rfl) m_len PySem.boot_len (a_cons (ev 0) a_nil)))) (e_ix (x_ix (hu1 hr)) (ev 0) (e_op o_mod (ev 4) (e_callB b_len (by rfl) m_len PySem.boot_len (a_cons (ev 0) a_nil))))))
    (ss_one (s_for PassesOwn.never rfl (i_range2 (by rfl) m_range (a_cons e_int (a_cons e_int a_nil))) (g_nm (i := 6) sc_unnoticed_swaps.nd) (ss_one (s_if (t_cmp (o_eq (hu64 hr)) (e_op o_mod (e_op o_mul (ev 5) (ev 6)) (ev 1)) e_int) (ss_one (s_ex (e_append 3 (e_tup (a_cons (ev 4) (a_cons (ev 6) a_nil)))))) ss_nil))))))
    (ss_one (s_ret (ev 3)))))
theorem b_notices_digits {k : Nat} (m_range : mg "range" = none) (m_len : mg "len" = none) (m_all : mg "all" = none) (m_gcd : mg "gcd" = some (.builtin "math.gcd")) : Body P w K mg base k "notices_digits" N_notices_digits s_notices_digits (r_notices_digits) := fun f cdv A outer s H E' hr =>
  (ss_one (s_ret (e_callB (b_all rfl) (by rfl) m_all (by decide +kernel) (a_cons (e_lcq rfl sc_notices_digits.nd (i_range1 (by rfl) m_range (a_cons (ev 2) a_nil)) (own := [("at", 3)]) (blkOk_by (N := N_notices_digits) (sc := defScope s_notices_digits) (by decide +kernel)) (fun _ _ _ _ _ => (g_nm (i := 3) sc_notices_digits.nd)) (fun _ _ _ _ _ => ts_nil) (fun _ _ _ _ _ => (e_cmp o_gt (e_op o_fdiv (ev 1) (e_callIm b_gcd (by rfl) m_gcd (a_cons (e_ix (x_ix (hu1 hr)) (ev 0) (e_op o_mod (ev 3) (e_callB b_len (by rfl) m_len PySem.boot_len (a_cons (ev 0) a_nil)))) (a_cons (ev 1) a_nil)))) e_int))) a_nil))))
theorem b_notices_swaps {k : Nat} (m_range : mg "range" = none) (m_len : mg "len" = none) (m_gcd : mg "gcd" = some (.builtin "math.gcd")) : Body P w K mg base k "notices_swaps" N_notices_swaps s_notices_swaps (r_notices_swaps) := fun f cdv A outer s H E' hr =>
  (ss_cons (s_for PassesOwn.never rfl (i_range1 (by rfl) m_range (a_cons (e_op o_sub (ev 2) e_int) a_nil)) (g_nm (i := 3) sc_notices_swaps.nd) (ss_cons (s_set 4 sc_notices_swaps.nd (e_op o_sub (e_ix (x_ix (hu1 hr)) (ev 0) (e_op o_mod (e_op o_add (ev 3) e_int) (e_callB b_len (by rfl) m_len PySem.boot_len (a_cons (ev 0) a_nil)))) (e_ix (x_ix (hu1 hr)) (ev 0) (e_op o_mod (ev 3) (e_callB b_len (by rfl) m_len PySem.boot_len (a_cons (ev 0) a_nil))))))
    (ss_one (s_if (t_cmp o_le (e_op o_fdiv (ev 1) (e_callIm b_gcd (by rfl) m_gcd (a_cons (ev 4) (a_cons (ev 1) a_nil)))) e_int) (ss_one (s_ret e_bl)) ss_nil))))
    (ss_one (s_ret e_bl)))
theorem b_least_modulus {k : Nat} {P_notices_digits : PSp} {P_notices_swaps : PSp} (g_notices_digits : Got P w K mg base k "notices_digits" ["weights", "modulus", "many"] (spOf K P_notices_digits)) (g_notices_swaps : Got P w K mg base k "notices_swaps" ["weights", "modulus", "many"] (spOf K P_notices_swaps)) (m_range : mg "range" = none) : Body P w K mg base k "least_modulus" N_least_modulus s_least_modulus (r_least_modulus P_notices_digits P_notices_swaps) := fun f cdv A outer s H E' hr =>
  (ss_cons (s_for PassesOwn.never rfl (i_range2 (by rfl) m_range (a_cons e_int (a_cons e_int a_nil))) (g_nm (i := 2) sc_least_modulus.nd) (ss_one (s_if (t_w (w_and (t_tru (e_fn g_notices_digits hr (by rfl) (a_cons (ev 0) (a_cons (ev 2) (a_cons (ev 1) a_nil))))) (w_and1 (t_tru (e_fn g_notices_swaps hr (by rfl) (a_cons (ev 0) (a_cons (ev 2) (a_cons (ev 1) a_nil)))))))) (ss_one (s_ret (ev 2))) ss_nil)))
    (ss_one (s_ret e_non)))
theorem b_lost_digit {k : Nat} {P_is_checked : PSp} (g_is_checked : Got P w K mg base k "is_checked" ["weights", "modulus", "code"] (spOf K P_is_checked)) (m_range : mg "range" = none) (m_list : mg "list" = none) : Body P w K mg base k "lost_digit" N_lost_digit s_lost_digit (r_lost_digit P_is_checked) := fun f cdv A outer s H E' hr =>
  (ss_cons (s_set 4 sc_lost_digit.nd (e_lst a_nil))
    (ss_cons (s_for PassesOwn.never rfl (i_range1 (by rfl) m_range (a_cons e_int a_nil)) (g_nm (i := 5) sc_lost_digit.nd) (ss_one (s_if (t_tru (e_fn g_is_checked hr (by rfl) (a_cons (ev 0) (a_cons (ev 1) (a_cons (e_op o_add (e_op o_add (e_callTy (b_list rfl) (by rfl) m_list (by decide +kernel) (a_cons (e_slice (ev 2) o_no (o_some (ev 3))) a_nil)) (e_lst (a_cons (ev 5) a_nil))) (e_callTy (b_list rfl) (by rfl) m_list (by decide +kernel) (a_cons (e_slice (ev 2) (o_some (e_op o_add (ev 3) e_int)) o_no) a_nil))) a_nil))))) (ss_one (s_ex (e_append 4 (ev 5)))) ss_nil)))
    (ss_one (s_ret (ev 4)))))
theorem b_mended {k : Nat} {P_lost_digit : PSp} (g_lost_digit : Got P w K mg base k "lost_digit" ["weights", "modulus", "code", "place"] (spOf K P_lost_digit)) (m_enumerate : mg "enumerate" = none) (m_list : mg "list" = none) (m_sorted : mg "sorted" = none) : Body P w K mg base k "mended" N_mended s_mended (r_mended P_lost_digit) := fun f cdv A outer s H E' hr =>
  (ss_cons (s_set 3 sc_mended.nd (e_lst a_nil))
    (ss_cons (s_for PassesOwn.never rfl (i_enum (by rfl) m_enumerate (a_cons (ev 2) a_nil)) (g_tp rfl (gs_cons (g_nm (i := 4) sc_mended.nd) (gs_cons (g_nm (i := 5) sc_mended.nd) gs_nil))) (ss_one (s_for PassesOwn.never rfl (i_seq (e_fn g_lost_digit hr (by rfl) (a_cons (ev 0) (a_cons (ev 1) (a_cons (ev 2) (a_cons (ev 4) a_nil)))))) (g_nm (i := 6) sc_mended.nd) (ss_one (s_if (t_cmp (o_ne (hu64 hr)) (ev 6) (ev 5)) (ss_one (s_ex (e_append 3 (e_op o_add (e_op o_add (e_callTy (b_list rfl) (by rfl) m_list (by decide +kernel) (a_cons (e_slice (ev 2) o_no (o_some (ev 4))) a_nil)) (e_lst (a_cons (ev 6) a_nil))) (e_callTy (b_list rfl) (by rfl) m_list (by decide +kernel) (a_cons (e_slice (ev 2) (o_some (e_op o_add (ev 4) e_int)) o_no) a_nil)))))) ss_nil)))))
    (ss_one (s_ret (e_callB (b_sorted (hu65 hr)) (by rfl) m_sorted (by decide +kernel) (a_cons (ev 3) a_nil))))))
theorem b_judge_slip {k : Nat} {P_is_checked : PSp} (g_is_checked : Got P w K mg base k "is_checked" ["weights", "modulus", "code"] (spOf K P_is_checked)) (m_len : mg "len" = none) (m_list : mg "list" = none) : Body P w K mg base k "judge_slip" N_judge_slip s_judge_slip (r_judge_slip P_is_checked) := fun f cdv A outer s H E' hr =>
  (ss_cons (s_if (t_w (w_or (t_cmp (o_ne (hu64 hr)) (e_callB b_len (by rfl) m_len PySem.boot_len (a_cons (ev 2) a_nil)) (e_callB b_len (by rfl) m_len PySem.boot_len (a_cons (ev 3) a_nil))) (w_or1 (t_cmp (o_eq (hu64 hr)) (e_callTy (b_list rfl) (by rfl) m_list (by decide +kernel) (a_cons (ev 2) a_nil)) (e_callTy (b_list rfl) (by rfl) m_list (by decide +kernel) (a_cons (ev 3) a_nil)))))) (ss_one (s_ret e_bl)) ss_nil)
    (ss_one (s_ret (e_and (e_fn g_is_checked hr (by rfl) (a_cons (ev 0) (a_cons (ev 1) (a_cons (ev 2) a_nil)))) (e_one (e_fn g_is_checked hr (by rfl) (a_cons (ev 0) (a_cons (ev 1) (a_cons (ev 3) a_nil)))))))))
theorem b__law_mixed {k : Nat} (m_int : mg "int" = none) : Body P w K mg base k "_law_mixed" N__law_mixed s__law_mixed (r__law_mixed) := fun f cdv A outer s H E' hr =>
  (ss_cons (s_set 2 sc__law_mixed.nd (e_op o_mod (e_callTy b_int (by rfl) m_int (by decide +kernel) (a_cons (e_op o_add (e_op o_add (e_op o_mul (ev 0) e_int) (e_op o_mul (ev 1) e_int)) e_int) a_nil)) e_int))
    (ss_cons (s_set 3 sc__law_mixed.nd (e_op o_mod (e_callTy b_int (by rfl) m_int (by decide +kernel) (a_cons (e_op o_add (e_op o_add (e_op o_mul (ev 2) (ev 2)) (e_op o_mul e_int (ev 2))) (ev 1)) a_nil)) e_int))
    (ss_cons (s_set 4 sc__law_mixed.nd (e_op o_mod (e_callTy b_int (by rfl) m_int (by decide +kernel) (a_cons (e_op o_add (e_op o_mul (ev 3) (ev 3)) (ev 2)) a_nil)) e_int))
    (ss_one (s_ret (e_op o_add (e_op o_mul (ev 3) e_int) (ev 4)))))))
theorem b__law_rest {k : Nat} {P__law_mixed : PSp} (g__law_mixed : Got P w K mg base k "_law_mixed" ["number", "place"] (spOf K P__law_mixed)) (m_len : mg "len" = none) (m_int : mg "int" = none) : Body P w K mg base k "_law_rest" N__law_rest s__law_rest (r__law_rest P__law_mixed) := fun f cdv A outer s H E' hr =>
  (ss_cons (s_set 3 sc__law_rest.nd e_int)
    (ss_cons (s_if (t_cmp o_gt (e_callB b_len (by rfl) m_len PySem.boot_len (a_cons (ev 0) a_nil)) e_int) (ss_one (s_set 3 sc__law_rest.nd (e_callTy b_int (by rfl) m_int (by decide +kernel) (a_cons (e_ix (x_ix (hu1 hr)) (ev 0) (e_op o_mod (e_callTy b_int (by rfl) m_int (by decide +kernel) (a_cons (ev 1) a_nil)) (e_callB b_len (by rfl) m_len PySem.boot_len (a_cons (ev 0) a_nil)))) a_nil)))) ss_nil)
    (ss_cons (s_if (t_cmp o_lt (ev 3) e_int) (ss_one (s_set 3 sc__law_rest.nd (e_op o_sub e_int (e_op o_mul e_int (ev 3))))) ss_nil)
    (ss_cons (s_if (t_w (w_and (t_cmp (o_eq (hu64 hr)) (ev 2) e_int) (w_and (t_cmp o_lt (ev 1) (e_callB b_len (by rfl) m_len PySem.boot_len (a_cons (ev 0) a_nil))) (w_and1 (t_cmp o_ge (ev 3) (e_op o_pow e_int e_int)))))) (ss_one (s_ret (e_op o_sub (ev 3) (e_op o_pow e_int e_int)))) ss_nil)
    (ss_one (s_ret (e_fn g__law_mixed hr (by rfl) (a_cons (e_op o_add (ev 3) (e_op o_mul (ev 2) e_int)) (a_cons (ev 1) a_nil)))))))))
theorem b__law_pool {k : Nat} {P__law_rest : PSp} (g__law_rest : Got P w K mg base k "_law_rest" ["script", "place", "turns"] (spOf K P__law_rest)) : Body P w K mg base k "_law_pool" N__law_pool s__law_pool (r__law_pool P__law_rest) := fun f cdv A outer s H E' hr =>
  (ss_one (s_ret (e_lst (a_cons (ev 0) (a_cons e_int (a_cons (e_fn g__law_rest hr (by rfl) (a_cons (ev 0) (a_cons e_int (a_cons e_int a_nil)))) (a_cons e_int a_nil)))))))
theorem b__law_next {k : Nat} {P__law_rest : PSp} (g__law_rest : Got P w K mg base k "_law_rest" ["script", "place", "turns"] (spOf K P__law_rest)) : Body P w K mg base k "_law_next" N__law_next s__law_next (r__law_next P__law_rest) := fun f cdv A outer s H E' hr =>
  (ss_cons (s_sto 0 e_int (e_op o_add (e_ix (x_ix (hu1 hr)) (ev 0) e_int) e_int))
    (ss_cons (s_sto 0 e_int (e_fn g__law_rest hr (by rfl) (a_cons (e_ix (x_ix (hu1 hr)) (ev 0) e_int) (a_cons (e_ix (x_ix (hu1 hr)) (ev 0) e_int) (a_cons e_int a_nil)))))
    (ss_one (s_sto 0 e_int e_int))))
theorem b__law_draw {k : Nat} {P__law_rest : PSp} (g__law_rest : Got P w K mg base k "_law_rest" ["script", "place", "turns"] (spOf K P__law_rest)) (m_int : mg "int" = none) : Body P w K mg base k "_law_draw" N__law_draw s__law_draw (r__law_draw P__law_rest) := fun f cdv A outer s H E' hr =>
  (ss_cons (s_if (t_cmp o_le (e_ix (x_ix (hu1 hr)) (ev 0) e_int) e_int) (ss_cons (s_sto 0 e_int (e_op o_add (e_ix (x_ix (hu1 hr)) (ev 0) e_int) e_int))
    (ss_one (s_sto 0 e_int (e_fn g__law_rest hr (by rfl) (a_cons (e_ix (x_ix (hu1 hr)) (ev 0) e_int) (a_cons (e_ix (x_ix (hu1 hr)) (ev 0) e_int) (a_cons (e_ix (x_ix (hu1 hr)) (ev 0) e_int) a_nil))))))) ss_nil)
    (ss_cons (s_set 2 sc__law_draw.nd (e_op o_mod (e_callTy b_int (by rfl) m_int (by decide +kernel) (a_cons (e_ix (x_ix (hu1 hr)) (ev 0) e_int) a_nil)) (ev 1)))
    (ss_cons (s_sto 0 e_int (e_op o_fdiv (e_callTy b_int (by rfl) m_int (by decide +kernel) (a_cons (e_ix (x_ix (hu1 hr)) (ev 0) e_int) a_nil)) (ev 1)))
    (ss_one (s_ret (ev 2))))))
theorem b__law_same {k : Nat} {P__law_same : PSp} (g__law_same : Got P w K mg base k "_law_same" ["answer", "due"] (spOf K P__law_same)) (m_isinstance : mg "isinstance" = none) (m_dict : mg "dict" = none) (m_len : mg "len" = none) (m_all : mg "all" = none) (m_list : mg "list" = none) (m_tuple : mg "tuple" = none) (m_range : mg "range" = none) (m_str : mg "str" = none) (m_int : mg "int" = none) (m_bool : mg "bool" = none) : Body P w K mg base k "_law_same" N__law_same s__law_same (r__law_same P__law_same) := fun f cdv A outer s H E' hr =>
  (ss_cons (s_if (t_tru (e_isi (T := "dict") (.inr (.inr (.inr (.inr (.inr rfl))))) (ev 1) (by rfl) m_isinstance (by rfl) m_dict (by decide +kernel))) (ss_cons (s_if (t_w (w_or (t_not (t_tru (e_isi (T := "dict") (.inr (.inr (.inr (.inr (.inr rfl))))) (ev 0) (by rfl) m_isinstance (by rfl) m_dict (by decide +kernel)))) (w_or1 (t_cmp (o_ne (hu64 hr)) (e_callB b_len (by rfl) m_len PySem.boot_len (a_cons (ev 0) a_nil)) (e_callB b_len (by rfl) m_len PySem.boot_len (a_cons (ev 1) a_nil)))))) (ss_one (s_ret e_bl)) ss_nil)
    (ss_one (s_ret (e_callB (b_all rfl) (by rfl) m_all (by decide +kernel) (a_cons (e_lcq rfl sc__law_same.nd (i_seq (ev 1)) (own := [("key", 2)]) (blkOk_by (N := N__law_same) (sc := defScope s__law_same) (by decide +kernel)) (fun _ _ _ _ _ => (g_nm (i := 2) sc__law_same.nd)) (fun _ _ _ _ _ => ts_nil) (fun _ _ _ _ _ => (e_and (e_cmp (o_in (hu65 hr)) (ev 2) (ev 0)) (e_one (e_fn g__law_same hr (by rfl) (a_cons (e_ix (x_ix (hu1 hr)) (ev 0) (ev 2)) (a_cons (e_ix (x_ix (hu1 hr)) (ev 1) (ev 2)) a_nil))))))) a_nil))))) ss_nil)
    (ss_cons (s_if (t_w (w_or (t_tru (e_isi (T := "list") (.inr (.inr (.inr (.inl rfl)))) (ev 1) (by rfl) m_isinstance (by rfl) m_list (by decide +kernel))) (w_or1 (t_tru (e_isi (T := "tuple") (.inr (.inr (.inr (.inr (.inl rfl))))) (ev 1) (by rfl) m_isinstance (by rfl) m_tuple (by decide +kernel)))))) (ss_cons (s_if (t_w (w_or (t_cmp (o_ne (hu64 hr)) (e_isi (T := "list") (.inr (.inr (.inr (.inl rfl)))) (ev 1) (by rfl) m_isinstance (by rfl) m_list (by decide +kernel)) (e_isi (T := "list") (.inr (.inr (.inr (.inl rfl)))) (ev 0) (by rfl) m_isinstance (by rfl) m_list (by decide +kernel))) (w_or1 (t_cmp (o_ne (hu64 hr)) (e_isi (T := "tuple") (.inr (.inr (.inr (.inr (.inl rfl))))) (ev 1) (by rfl) m_isinstance (by rfl) m_tuple (by decide +kernel)) (e_isi (T := "tuple") (.inr (.inr (.inr (.inr (.inl rfl))))) (ev 0) (by rfl) m_isinstance (by rfl) m_tuple (by decide +kernel)))))) (ss_one (s_ret e_bl)) ss_nil)
    (ss_one (s_ret (e_and (e_cmp (o_eq (hu64 hr)) (e_callB b_len (by rfl) m_len PySem.boot_len (a_cons (ev 0) a_nil)) (e_callB b_len (by rfl) m_len PySem.boot_len (a_cons (ev 1) a_nil))) (e_one (e_callB (b_all rfl) (by rfl) m_all (by decide +kernel) (a_cons (e_lcq rfl sc__law_same.nd (i_range1 (by rfl) m_range (a_cons (e_callB b_len (by rfl) m_len PySem.boot_len (a_cons (ev 1) a_nil)) a_nil)) (own := [("k", 3)]) (blkOk_by (N := N__law_same) (sc := defScope s__law_same) (by decide +kernel)) (fun _ _ _ _ _ => (g_nm (i := 3) sc__law_same.nd)) (fun _ _ _ _ _ => ts_nil) (fun _ _ _ _ _ => (e_fn g__law_same hr (by rfl) (a_cons (e_ix (x_ix (hu1 hr)) (ev 0) (ev 3)) (a_cons (e_ix (x_ix (hu1 hr)) (ev 1) (ev 3)) a_nil))))) a_nil))))))) ss_nil)
    (ss_cons (s_if (t_tru (e_isi (T := "str") (.inr (.inr (.inl rfl))) (ev 1) (by rfl) m_isinstance (by rfl) m_str (by decide +kernel))) (ss_one (s_ret (e_and (e_isi (T := "str") (.inr (.inr (.inl rfl))) (ev 0) (by rfl) m_isinstance (by rfl) m_str (by decide +kernel)) (e_one (e_cmp (o_eq (hu64 hr)) (ev 0) (ev 1)))))) ss_nil)
    (ss_cons (s_if (t_w (w_or (t_cmp o_is (ev 1) e_non) (w_or (t_cmp o_is (ev 1) e_bl) (w_or1 (t_cmp o_is (ev 1) e_bl))))) (ss_one (s_ret (e_or (e_and (e_cmp o_is (ev 1) e_non) (e_one (e_cmp o_is (ev 0) e_non))) (e_or (e_and (e_cmp o_is (ev 1) e_bl) (e_one (e_cmp o_is (ev 0) e_bl))) (e_one (e_and (e_cmp o_is (ev 1) e_bl) (e_one (e_cmp o_is (ev 0) e_bl)))))))) ss_nil)
    (ss_one (s_ret (e_and (e_isi (T := "int") (.inr (.inl rfl)) (ev 0) (by rfl) m_isinstance (by rfl) m_int (by decide +kernel)) (e_and (e_not (e_isi (T := "bool") (.inl rfl) (ev 0) (by rfl) m_isinstance (by rfl) m_bool (by decide +kernel))) (e_one (e_cmp (o_eq (hu64 hr)) (ev 0) (ev 1)))))))))))
theorem b__law_sum {k : Nat} (m_len : mg "len" = none) (m_range : mg "range" = none) (m_int : mg "int" = none) (m_sum : mg "sum" = none) : Body P w K mg base k "_law_sum" N__law_sum s__law_sum (r__law_sum) := fun f cdv A outer s H E' hr =>
  (ss_one (s_ret (e_op o_mod (e_callTy b_int (by rfl) m_int (by decide +kernel) (a_cons (e_callB (b_sum rfl) (by rfl) m_sum (by decide +kernel) (a_cons (e_lcq rfl sc__law_sum.nd (i_range1 (by rfl) m_range (a_cons (e_callB b_len (by rfl) m_len PySem.boot_len (a_cons (ev 2) a_nil)) a_nil)) (own := [("k", 3)]) (blkOk_by (N := N__law_sum) (sc := defScope s__law_sum) (by decide +kernel)) (fun _ _ _ _ _ => (g_nm (i := 3) sc__law_sum.nd)) (fun _ _ _ _ _ => ts_nil) (fun _ _ _ _ _ => (e_op o_mul (e_ix (x_ix (hu1 hr)) (ev 0) (e_op o_mod (e_callTy b_int (by rfl) m_int (by decide +kernel) (a_cons (ev 3) a_nil)) (e_callB b_len (by rfl) m_len PySem.boot_len (a_cons (ev 0) a_nil)))) (e_ix (x_ix (hu1 hr)) (ev 2) (ev 3))))) a_nil)) a_nil)) (ev 1))))
theorem b__law_digits {k : Nat} (m_range : mg "range" = none) (m_int : mg "int" = none) (m_len : mg "len" = none) : Body P w K mg base k "_law_digits" N__law_digits s__law_digits (r__law_digits) := fun f cdv A outer s H E' hr =>
  (ss_cons (s_set 3 sc__law_digits.nd (e_lst a_nil))
    (ss_cons (s_for PassesOwn.never rfl (i_range1 (by rfl) m_range (a_cons (ev 2) a_nil)) (g_nm (i := 4) sc__law_digits.nd) (ss_one (s_set 3 sc__law_digits.nd (e_op o_add (ev 3) (e_lcq rfl sc__law_digits.nd (i_range2 (by rfl) m_range (a_cons e_int (a_cons e_int a_nil))) (own := [("gap", 5)]) (blkOk_by (N := N__law_digits) (sc := defScope s__law_digits) (by decide +kernel)) (fun _ _ _ _ _ => (g_nm (i := 5) sc__law_digits.nd)) (fun _ _ _ _ _ => (ts_one (t_cmp (o_eq (hu64 hr)) (e_op o_mod (e_callTy b_int (by rfl) m_int (by decide +kernel) (a_cons (e_op o_mul (e_ix (x_ix (hu1 hr)) (ev 0) (e_op o_mod (e_callTy b_int (by rfl) m_int (by decide +kernel) (a_cons (ev 4) a_nil)) (e_callB b_len (by rfl) m_len PySem.boot_len (a_cons (ev 0) a_nil)))) (ev 5)) a_nil)) (ev 1)) e_int))) (fun _ _ _ _ _ => (e_tup (a_cons (ev 4) (a_cons (ev 5) a_nil)))))))))
    (ss_one (s_ret (ev 3)))))
theorem b__law_swaps {k : Nat} (m_range : mg "range" = none) (m_int : mg "int" = none) (m_len : mg "len" = none) : Body P w K mg base k "_law_swaps" N__law_swaps s__law_swaps (r__law_swaps) := fun f cdv A outer s H E' hr =>
  (ss_cons (s_set 3 sc__law_swaps.nd (e_lst a_nil))
    (ss_cons (s_for PassesOwn.never rfl (i_range1 (by rfl) m_range (a_cons (e_op o_sub (ev 2) e_int) a_nil)) (g_nm (i := 4) sc__law_swaps.nd) (ss_cons (s_set 5 sc__law_swaps.nd (e_op o_sub (e_ix (x_ix (hu1 hr)) (ev 0) (e_op o_mod (e_callTy b_int (by rfl) m_int (by decide +kernel) (a_cons (ev 4) a_nil)) (e_callB b_len (by rfl) m_len PySem.boot_len (a_cons (ev 0) a_nil)))) (e_ix (x_ix (hu1 hr)) (ev 0) (e_op o_mod (e_callTy b_int (by rfl) m_int (by decide +kernel) (a_cons (e_op o_add (ev 4) e_int) a_nil)) (e_callB b_len (by rfl) m_len PySem.boot_len (a_cons (ev 0) a_nil))))))
    (ss_one (s_set 3 sc__law_swaps.nd (e_op o_add (ev 3) (e_lcq rfl sc__law_swaps.nd (i_range2 (by rfl) m_range (a_cons e_int (a_cons e_int a_nil))) (own := [("gap", 6)]) (blkOk_by (N := N__law_swaps) (sc := defScope s__law_swaps) (by decide +kernel)) (fun _ _ _ _ _ => (g_nm (i := 6) sc__law_swaps.nd)) (fun _ _ _ _ _ => (ts_one (t_cmp (o_eq (hu64 hr)) (e_op o_mod (e_callTy b_int (by rfl) m_int (by decide +kernel) (a_cons (e_op o_mul (ev 5) (ev 6)) a_nil)) (ev 1)) e_int))) (fun _ _ _ _ _ => (e_tup (a_cons (ev 4) (a_cons (ev 6) a_nil))))))))))
    (ss_one (s_ret (ev 3)))))
theorem b_law {k : Nat} {P__law_pool : PSp} {P__law_draw : PSi} {P__law_next : PSi} {P__law_sum : PSp} {P__law_same : PSp} {P_check_sum : PSp} {P_is_checked : PSp} {P_with_check : PSp} {P__law_digits : PSp} {P__law_swaps : PSp} {P_unnoticed_digits : PSp} {P_unnoticed_swaps : PSp} {P_notices_digits : PSp} {P_notices_swaps : PSp} {P_mended : PSp} {P_judge_slip : PSp} {P_lost_digit : PSp} {P_least_modulus : PSp} (g__law_pool : Got P w K mg base k "_law_pool" ["script"] (spOf K P__law_pool)) (g__law_draw : Got P w K mg base k "_law_draw" ["pool", "limit"] (spIo K P__law_draw)) (g__law_next : Got P w K mg base k "_law_next" ["pool"] (spIo K P__law_next)) (g__law_sum : Got P w K mg base k "_law_sum" ["weights", "modulus", "code"] (spOf K P__law_sum)) (g__law_same : Got P w K mg base k "_law_same" ["answer", "due"] (spOf K P__law_same)) (g_check_sum : Got P w K mg base k "check_sum" ["weights", "modulus", "code"] (spOf K P_check_sum)) (g_is_checked : Got P w K mg base k "is_checked" ["weights", "modulus", "code"] (spOf K P_is_checked)) (g_with_check : Got P w K mg base k "with_check" ["weights", "modulus", "code"] (spOf K P_with_check)) (g__law_digits : Got P w K mg base k "_law_digits" ["weights", "modulus", "many"] (spOf K P__law_digits)) (g__law_swaps : Got P w K mg base k "_law_swaps" ["weights", "modulus", "many"] (spOf K P__law_swaps)) (g_unnoticed_digits : Got P w K mg base k "unnoticed_digits" ["weights", "modulus", "many"] (spOf K P_unnoticed_digits)) (g_unnoticed_swaps : Got P w K mg base k "unnoticed_swaps" ["weights", "modulus", "many"] (spOf K P_unnoticed_swaps)) (g_notices_digits : Got P w K mg base k "notices_digits" ["weights", "modulus", "many"] (spOf K P_notices_digits)) (g_notices_swaps : Got P w K mg base k "notices_swaps" ["weights", "modulus", "many"] (spOf K P_notices_swaps)) (g_mended : Got P w K mg base k "mended" ["weights", "modulus", "code"] (spOf K P_mended)) (g_judge_slip : Got P w K mg base k "judge_slip" ["weights", "modulus", "code", "other"] (spOf K P_judge_slip)) (g_lost_digit : Got P w K mg base k "lost_digit" ["weights", "modulus", "code", "place"] (spOf K P_lost_digit)) (g_least_modulus : Got P w K mg base k "least_modulus" ["weights", "many"] (spOf K P_least_modulus)) (m_range : mg "range" = none) (m_min : mg "min" = none) (m_sorted : mg "sorted" = none) (m_abs : mg "abs" = none) : Body P w K mg base k "law" N_law s_law (r_law P__law_pool P__law_draw P__law_next P__law_sum P__law_same P_check_sum P_is_checked P_with_check P__law_digits P__law_swaps P_unnoticed_digits P_unnoticed_swaps P_notices_digits P_notices_swaps P_mended P_judge_slip P_lost_digit P_least_modulus) := fun f cdv A outer s H E' hr =>
  (ss_cons (s_set 1 sc_law.nd (e_fn g__law_pool hr (by rfl) (a_cons (ev 0) a_nil)))
    (ss_cons (s_set 2 sc_law.nd (e_lcq rfl sc_law.nd (i_range1 (by rfl) m_range (a_cons (e_op o_add e_int (e_fnI 1 g__law_draw hr (by rfl) (a_cons e_int a_nil))) a_nil)) (own := [("k", 3)]) (blkOk_by (N := N_law) (sc := defScope s_law) (by decide +kernel)) (fun _ _ _ _ _ => (g_nm (i := 3) sc_law.nd)) (fun _ _ _ _ _ => ts_nil) (fun _ _ _ _ _ => (e_op o_add e_int (e_fnI 1 g__law_draw hr (by rfl) (a_cons e_int a_nil))))))
    (ss_cons (s_asg (e_tup (a_cons (e_op o_add e_int (e_fnI 1 g__law_draw hr (by rfl) (a_cons e_int a_nil))) (a_cons (e_op o_add e_int (e_fnI 1 g__law_draw hr (by rfl) (a_cons e_int a_nil))) a_nil))) (g_tp rfl (gs_cons (g_nm (i := 4) sc_law.nd) (gs_cons (g_nm (i := 5) sc_law.nd) gs_nil))))
    (ss_cons (s_set 6 sc_law.nd (e_lcq rfl sc_law.nd (i_range1 (by rfl) m_range (a_cons (ev 5) a_nil)) (own := [("k", 3)]) (blkOk_by (N := N_law) (sc := defScope s_law) (by decide +kernel)) (fun _ _ _ _ _ => (g_nm (i := 3) sc_law.nd)) (fun _ _ _ _ _ => ts_nil) (fun _ _ _ _ _ => (e_fnI 1 g__law_draw hr (by rfl) (a_cons e_int a_nil)))))
    (ss_cons (s_ex (e_fnI 1 g__law_next hr (by rfl) a_nil))
    (ss_cons (s_set 7 sc_law.nd (e_fn g__law_sum hr (by rfl) (a_cons (ev 2) (a_cons (ev 4) (a_cons (ev 6) a_nil)))))
    (ss_cons (s_if (t_not (t_tru (e_fn g__law_same hr (by rfl) (a_cons (e_lst (a_cons (e_fn g_check_sum hr (by rfl) (a_cons (ev 2) (a_cons (ev 4) (a_cons (ev 6) a_nil)))) (a_cons (e_fn g_is_checked hr (by rfl) (a_cons (ev 2) (a_cons (ev 4) (a_cons (ev 6) a_nil)))) a_nil))) (a_cons (e_lst (a_cons (ev 7) (a_cons (e_cmp (o_eq (hu64 hr)) (ev 7) e_int) a_nil))) a_nil))))) (ss_one (s_ret e_bl)) ss_nil)
    (ss_cons (s_setLcq 8 rfl sc_law.nd (i_range1 (by rfl) m_range (a_cons (e_callB (b_min rfl) (by rfl) m_min (by decide +kernel) (a_cons e_int (a_cons (ev 4) a_nil))) a_nil)) (own := [("digit", 9)]) (blkOk_by (N := N_law) (sc := defScope s_law) (by decide +kernel)) (fun _ _ _ _ _ => (g_nm (i := 9) sc_law.nd)) (fun _ _ _ _ _ => (ts_one (t_cmp (o_eq (hu64 hr)) (e_fn g__law_sum hr (by rfl) (a_cons (ev 2) (a_cons (ev 4) (a_cons (e_op o_add (ev 6) (e_lst (a_cons (ev 9) a_nil))) a_nil)))) e_int))) (fun _ _ _ _ _ => (ev 9)) (sw_true rfl rfl rfl rfl))
    (ss_cons (s_if (t_not (t_tru (e_fn g__law_same hr (by rfl) (a_cons (e_fn g_with_check hr (by rfl) (a_cons (ev 2) (a_cons (ev 4) (a_cons (ev 6) a_nil)))) (a_cons (e_if (t_cmp (o_ne (hu64 hr)) (ev 8) (e_lst a_nil)) (e_op o_add (ev 6) (e_slice (ev 8) o_no (o_some e_int))) e_non) a_nil))))) (ss_one (s_ret e_bl)) ss_nil)
    (ss_cons (s_par2 10 11 rfl sc_law.nd (e_fn g__law_digits hr (by rfl) (a_cons (ev 2) (a_cons (ev 4) (a_cons (ev 5) a_nil)))) (e_fn g__law_swaps hr (by rfl) (a_cons (ev 2) (a_cons (ev 4) (a_cons (ev 5) a_nil)))))
    (ss_cons (s_if (t_not (t_tru (e_fn g__law_same hr (by rfl) (a_cons (e_lst (a_cons (e_fn g_unnoticed_digits hr (by rfl) (a_cons (ev 2) (a_cons (ev 4) (a_cons (ev 5) a_nil)))) (a_cons (e_fn g_unnoticed_swaps hr (by rfl) (a_cons (ev 2) (a_cons (ev 4) (a_cons (ev 5) a_nil)))) a_nil))) (a_cons (e_lst (a_cons (ev 10) (a_cons (ev 11) a_nil))) a_nil))))) (ss_one (s_ret e_bl)) ss_nil)
    (ss_cons (s_if (t_not (t_tru (e_fn g__law_same hr (by rfl) (a_cons (e_lst (a_cons (e_fn g_notices_digits hr (by rfl) (a_cons (ev 2) (a_cons (ev 4) (a_cons (ev 5) a_nil)))) (a_cons (e_fn g_notices_swaps hr (by rfl) (a_cons (ev 2) (a_cons (ev 4) (a_cons (ev 5) a_nil)))) a_nil))) (a_cons (e_lst (a_cons (e_cmp (o_eq (hu64 hr)) (ev 10) (e_lst a_nil)) (a_cons (e_cmp (o_eq (hu64 hr)) (ev 11) (e_lst a_nil)) a_nil))) a_nil))))) (ss_one (s_ret e_bl)) ss_nil)
    (ss_cons (s_set 12 sc_law.nd (e_lst a_nil))
    (ss_cons (s_for PassesOwn.never rfl (i_range1 (by rfl) m_range (a_cons (ev 5) a_nil)) (g_nm (i := 3) sc_law.nd) (ss_cons (s_setLcq 13 rfl sc_law.nd (i_range1 (by rfl) m_range (a_cons e_int a_nil)) (own := [("digit", 9)]) (blkOk_by (N := N_law) (sc := defScope s_law) (by decide +kernel)) (fun _ _ _ _ _ => (g_nm (i := 9) sc_law.nd)) (fun _ _ _ _ _ => (ts_one (t_cmp (o_ne (hu64 hr)) (ev 9) (e_ix (x_ix (hu1 hr)) (ev 6) (ev 3))))) (fun _ _ _ _ _ => (e_op o_add (e_op o_add (e_slice (ev 6) o_no (o_some (ev 3))) (e_lst (a_cons (ev 9) a_nil))) (e_slice (ev 6) (o_some (e_op o_add (ev 3) e_int)) o_no))) (sw_true rfl rfl rfl rfl))
    (ss_one (s_set 12 sc_law.nd (e_op o_add (ev 12) (e_lcq rfl sc_law.nd (i_seq (ev 13)) (own := [("one", 14)]) (blkOk_by (N := N_law) (sc := defScope s_law) (by decide +kernel)) (fun _ _ _ _ _ => (g_nm (i := 14) sc_law.nd)) (fun _ _ _ _ _ => (ts_one (t_cmp (o_eq (hu64 hr)) (e_fn g__law_sum hr (by rfl) (a_cons (ev 2) (a_cons (ev 4) (a_cons (ev 14) a_nil)))) e_int))) (fun _ _ _ _ _ => (ev 14))))))))
    (ss_cons (s_if (t_not (t_tru (e_fn g__law_same hr (by rfl) (a_cons (e_fn g_mended hr (by rfl) (a_cons (ev 2) (a_cons (ev 4) (a_cons (ev 6) a_nil)))) (a_cons (e_callB (b_sorted (hu65 hr)) (by rfl) m_sorted (by decide +kernel) (a_cons (ev 12) a_nil)) a_nil))))) (ss_one (s_ret e_bl)) ss_nil)
    (ss_cons (s_for PassesOwn.never rfl (i_range1 (by rfl) m_range (a_cons (ev 5) a_nil)) (g_nm (i := 3) sc_law.nd) (ss_cons (s_for PassesOwn.never rfl (i_range2 (by rfl) m_range (a_cons e_int (a_cons e_int a_nil))) (g_nm (i := 15) sc_law.nd) (ss_one (s_if (t_cmp o_lt (e_op o_add (e_ix (x_ix (hu1 hr)) (ev 6) (ev 3)) (ev 15)) e_int) (ss_cons (s_set 16 sc_law.nd (e_op o_add (e_op o_add (e_slice (ev 6) o_no (o_some (ev 3))) (e_lst (a_cons (e_op o_add (e_ix (x_ix (hu1 hr)) (ev 6) (ev 3)) (ev 15)) a_nil))) (e_slice (ev 6) (o_some (e_op o_add (ev 3) e_int)) o_no)))
    (ss_cons (s_if (t_cmp (o_ne (hu64 hr)) (e_cmp (o_eq (hu64 hr)) (e_fn g__law_sum hr (by rfl) (a_cons (ev 2) (a_cons (ev 4) (a_cons (ev 16) a_nil)))) (ev 7)) (e_cmp (o_in (hu65 hr)) (e_tup (a_cons (ev 3) (a_cons (ev 15) a_nil))) (ev 10))) (ss_one (s_ret e_bl)) ss_nil)
    (ss_one (s_if (t_not (t_tru (e_fn g__law_same hr (by rfl) (a_cons (e_fn g_judge_slip hr (by rfl) (a_cons (ev 2) (a_cons (ev 4) (a_cons (ev 6) (a_cons (ev 16) a_nil))))) (a_cons (e_and (e_cmp (o_eq (hu64 hr)) (ev 7) e_int) (e_one (e_cmp (o_in (hu65 hr)) (e_tup (a_cons (ev 3) (a_cons (ev 15) a_nil))) (ev 10)))) a_nil))))) (ss_one (s_ret e_bl)) ss_nil)))) ss_nil)))
    (ss_cons (s_if (t_cmp (o_eq (hu64 hr)) (ev 7) e_int) (ss_cons (s_setLcq 17 rfl sc_law.nd (i_range1 (by rfl) m_range (a_cons e_int a_nil)) (own := [("digit", 9)]) (blkOk_by (N := N_law) (sc := defScope s_law) (by decide +kernel)) (fun _ _ _ _ _ => (g_nm (i := 9) sc_law.nd)) (fun _ _ _ _ _ => (ts_one (t_cmp (o_eq (hu64 hr)) (e_fn g__law_sum hr (by rfl) (a_cons (ev 2) (a_cons (ev 4) (a_cons (e_op o_add (e_op o_add (e_slice (ev 6) o_no (o_some (ev 3))) (e_lst (a_cons (ev 9) a_nil))) (e_slice (ev 6) (o_some (e_op o_add (ev 3) e_int)) o_no)) a_nil)))) e_int))) (fun _ _ _ _ _ => (ev 9)) (sw_true rfl rfl rfl rfl))
    (ss_one (s_if (t_not (t_tru (e_fn g__law_same hr (by rfl) (a_cons (e_fn g_lost_digit hr (by rfl) (a_cons (ev 2) (a_cons (ev 4) (a_cons (ev 6) (a_cons (ev 3) a_nil))))) (a_cons (ev 17) a_nil))))) (ss_one (s_ret e_bl)) ss_nil))) ss_nil)
    (ss_one (s_if (t_w (w_and (t_cmp o_lt (e_op o_add (ev 3) e_int) (ev 5)) (w_and1 (t_cmp (o_ne (hu64 hr)) (e_ix (x_ix (hu1 hr)) (ev 6) (ev 3)) (e_ix (x_ix (hu1 hr)) (ev 6) (e_op o_add (ev 3) e_int)))))) (ss_cons (s_set 16 sc_law.nd (e_op o_add (e_op o_add (e_slice (ev 6) o_no (o_some (ev 3))) (e_lst (a_cons (e_ix (x_ix (hu1 hr)) (ev 6) (e_op o_add (ev 3) e_int)) (a_cons (e_ix (x_ix (hu1 hr)) (ev 6) (ev 3)) a_nil)))) (e_slice (ev 6) (o_some (e_op o_add (ev 3) e_int)) o_no)))
    (ss_one (s_if (t_cmp (o_ne (hu64 hr)) (e_cmp (o_eq (hu64 hr)) (e_fn g__law_sum hr (by rfl) (a_cons (ev 2) (a_cons (ev 4) (a_cons (ev 16) a_nil)))) (ev 7)) (e_cmp (o_in (hu65 hr)) (e_tup (a_cons (ev 3) (a_cons (e_callB b_abs (by rfl) m_abs (by decide +kernel) (a_cons (e_op o_sub (e_ix (x_ix (hu1 hr)) (ev 6) (ev 3)) (e_ix (x_ix (hu1 hr)) (ev 6) (e_op o_add (ev 3) e_int))) a_nil)) a_nil))) (ev 11))) (ss_one (s_ret e_bl)) ss_nil))) ss_nil)))))
    (ss_cons (s_set 18 sc_law.nd (e_op o_add e_int (e_fnI 1 g__law_draw hr (by rfl) (a_cons e_int a_nil))))
    (ss_cons (s_setLcq 19 rfl sc_law.nd (i_range2 (by rfl) m_range (a_cons e_int (a_cons e_int a_nil))) (own := [("number", 20)]) (blkOk_by (N := N_law) (sc := defScope s_law) (by decide +kernel)) (fun _ _ _ _ _ => (g_nm (i := 20) sc_law.nd)) (fun _ _ _ _ _ => (ts_one (t_w (w_and (t_cmp (o_eq (hu64 hr)) (e_fn g__law_digits hr (by rfl) (a_cons (ev 2) (a_cons (ev 20) (a_cons (ev 18) a_nil)))) (e_lst a_nil)) (w_and1 (t_cmp (o_eq (hu64 hr)) (e_fn g__law_swaps hr (by rfl) (a_cons (ev 2) (a_cons (ev 20) (a_cons (ev 18) a_nil)))) (e_lst a_nil))))))) (fun _ _ _ _ _ => (ev 20)) (sw_true rfl rfl rfl rfl))
    (ss_cons (s_set 21 sc_law.nd (e_fn g_least_modulus hr (by rfl) (a_cons (ev 2) (a_cons (ev 18) a_nil))))
    (ss_cons (s_if (t_cmp (o_ne (hu64 hr)) (ev 19) (e_lst a_nil)) (ss_one (s_ret (e_fn g__law_same hr (by rfl) (a_cons (ev 21) (a_cons (e_ix (x_ix (hu1 hr)) (ev 19) e_int) a_nil))))) ss_nil)
    (ss_one (s_ret (e_or (e_cmp o_is (ev 21) e_non) (e_one (e_cmp o_gt (ev 21) e_int)))))))))))))))))))))))))
end
end K44
namespace K44
open PL
/-! ### sums -/
def wAt (w : List Int) (i : Nat) : Int := w.getD (i % w.length) 0
def sm (w c : List Int) : Int := ((List.range c.length).map fun i => wAt w i * c.getD i 0).sum
def OkW (w : List Int) : Prop := 0 < w.length ∧ w.length ≤ 100 ∧ ∀ x ∈ w, 1 ≤ x ∧ x ≤ 12
theorem wAt_mem {w : List Int} (h : 0 < w.length) (i : Nat) : wAt w i ∈ w := by
  have hl := Nat.mod_lt i h
  unfold wAt
  rw [List.getD_eq_getElem?_getD, List.getElem?_eq_getElem hl]
  exact List.getElem_mem hl
theorem OkW.at {w : List Int} (h : OkW w) (i : Nat) : 1 ≤ wAt w i ∧ wAt w i ≤ 12 := h.2.2 _ (wAt_mem h.1 i)
theorem OkW.ix {w : List Int} (h : OkW w) (i : Nat) : L2.atI (w.map D.int) (((i : Nat) : Int).fmod ((w.map D.int).length : Nat)) = some (.int (wAt w i)) := by
  have hl := Nat.mod_lt i h.1
  rw [Int.fmod_eq_emod_of_nonneg _ (by omega), List.length_map]
  have e : ((i : Nat) : Int) % ((w.length : Nat) : Int) = ((i % w.length : Nat) : Int) := by omega
  rw [e]
  exact L2.atI_nat (getI hl)
theorem OkW.ne {w : List Int} (h : OkW w) : (((w.map D.int).length : Nat) : Int) ≠ 0 := by have := h.1; rw [List.length_map]; omega
theorem OkW.fit {w : List Int} (h : OkW w) (i : Nat) (y : Int) : MulFits (wAt w i) y := by have := h.at i; exact .inl ⟨by omega, by omega⟩
def P_check_sum : PSp := fun ds K => ∃ (w : List Int) (m : Int) (c : List Int), ds = [.lst (w.map D.int), .int m, .lst (c.map D.int)] ∧ OkW w ∧ 0 < m ∧ c.length ≤ 1000 ∧ K (.sh (.int (sm w c % m)))
theorem getD_int (c : List Int) (i : Nat) (h : i < c.length) : (c.map D.int).getD i .non = .int (c.getD i 0) := by simp [h]
theorem l_check_sum : ∀ ds K', P_check_sum ds K' → r_check_sum { nx := fun _ => K' (.sh .non), rt := fun r _ => K' r } (startE ["weights", "modulus", "code", "at", "digit"] ds) := by
  rintro ds K' ⟨w, m, c, rfl, hw, hm, hc, k⟩
  have ss := szL
  refine lc_map (ds := enumD 0 (c.map D.int)) (fun d => match d with | .tup [.int i, .int x] => .int (wAt w i.toNat * x) | _ => .non) (fun K k => k) (fun d Q hd q => ?_) (by rw [enumD_len, List.length_map]; omega) ?_
  · obtain ⟨i, x, hx, rfl⟩ := enumD_mem hd
    rw [List.getElem?_map] at hx
    cases e : c[i]? with
    | none => rw [e] at hx; cases hx
    | some y =>
      rw [e] at hx
      cases hx
      exact And.intro rfl (And.intro hw.ne ⟨_, _, rfl, hw.ix i, And.intro (hw.fit i y) q⟩)
  · have es : (enumD 0 (c.map D.int)).map (fun d => match d with | .tup [.int i, .int x] => .int (wAt w i.toNat * x) | _ => .non) = ((List.range c.length).map fun i => wAt w i * c.getD i 0).map D.int := by
      rw [enumD_map, List.map_map, List.length_map]
      refine List.map_congr_left fun i hi => ?_
      rw [getD_int c i (List.mem_range.mp hi)]
      rfl
    rw [es]
    refine ⟨_, rfl, And.intro (by omega) ?_⟩
    rw [← Int.fmod_eq_emod_of_nonneg _ (by omega)] at k
    exact k
def P__law_sum : PSp := P_check_sum
theorem l__law_sum : ∀ ds K', P__law_sum ds K' → r__law_sum { nx := fun _ => K' (.sh .non), rt := fun r _ => K' r } (startE ["weights", "modulus", "code", "k"] ds) := by
  rintro ds K' ⟨w, m, c, rfl, hw, hm, hc, k⟩
  have ss := szL
  refine lc_map (ds := rangeD 0 c.length) (fun d => match d with | .int i => .int (wAt w i.toNat * c.getD i.toNat 0) | _ => .non) (fun K k => And.intro (by rw [List.length_map]; omega) (by rw [List.length_map, Int.toNat_natCast]; exact k)) (fun d Q hd q => ?_) (by rw [rangeD_len]; omega) ?_
  · obtain ⟨i, hi, rfl⟩ := rangeD_mem hd
    rw [Int.zero_add] at *
    exact And.intro hw.ne ⟨_, _, rfl, hw.ix i, _, _, rfl, L2.atI_nat (getI hi), And.intro (hw.fit i _) q⟩
  · have es : (rangeD 0 c.length).map (fun d => match d with | .int i => .int (wAt w i.toNat * c.getD i.toNat 0) | _ => .non) = ((List.range c.length).map fun i => wAt w i * c.getD i 0).map D.int := by
      rw [rangeD_map, List.map_map]
      refine List.map_congr_left fun i hi => ?_
      show D.int (wAt w ((0 : Int) + (i : Nat)).toNat * c.getD ((0 : Int) + (i : Nat)).toNat 0) = _
      rw [Int.zero_add, Int.toNat_natCast]
      rfl
    rw [es]
    refine ⟨_, rfl, And.intro (by omega) ?_⟩
    rw [← Int.fmod_eq_emod_of_nonneg _ (by omega)] at k
    exact k
def P_is_checked : PSp := fun ds K => ∃ (w : List Int) (m : Int) (c : List Int), ds = [.lst (w.map D.int), .int m, .lst (c.map D.int)] ∧ OkW w ∧ 0 < m ∧ c.length ≤ 1000 ∧ K (.sh (.bl (decide (sm w c % m = 0))))
theorem l_is_checked : ∀ ds K', P_is_checked ds K' → r_is_checked P_check_sum { nx := fun _ => K' (.sh .non), rt := fun r _ => K' r } (startE ["weights", "modulus", "code"] ds) := by
  rintro ds K' ⟨w, m, c, rfl, hw, hm, hc, k⟩
  refine ⟨w, m, c, rfl, hw, hm, hc, And.intro (And.intro trivial trivial) ?_⟩
  rw [← eqD_int] at k
  exact k
/-! ### a check put behind -/
def okd (w : List Int) (m : Int) (c : List Int) (d : Nat) : Bool := decide (sm w (c ++ [(d : Int)]) % m = 0)
def wcD (w : List Int) (m : Int) (c : List Int) : D := match (List.range (min 10 m).toNat).find? (okd w m c) with
  | some d => .lst ((c ++ [(d : Int)]).map D.int)
  | none => .non
def P_with_check : PSp := fun ds K => ∃ (w : List Int) (m : Int) (c : List Int), ds = [.lst (w.map D.int), .int m, .lst (c.map D.int)] ∧ OkW w ∧ 0 < m ∧ m < 2 ^ 30 ∧ c.length ≤ 900 ∧ K (.sh (wcD w m c)) ∧ ∀ x, wcD w m c = .lst x → K (.own (.lst x))
theorem find_range {p : Nat → Bool} {n d : Nat} (h : d < n) (hp : p d = true) (hno : ∀ j, j < d → p j = false) : (List.range n).find? p = some d := by
  induction n with
  | zero => omega
  | succ n ih =>
    rw [List.range_succ, List.find?_append]
    by_cases hd : d < n
    · rw [ih hd]; rfl
    · have e : d = n := by omega
      subst e
      have : (List.range d).find? p = none := by
        rw [List.find?_eq_none]
        intro x hx
        rw [hno x (List.mem_range.mp hx)]; decide
      rw [this]
      simp [hp]
theorem find_range_none {p : Nat → Bool} {n : Nat} (hno : ∀ j, j < n → p j = false) : (List.range n).find? p = none := by
  rw [List.find?_eq_none]
  intro x hx
  rw [hno x (List.mem_range.mp hx)]; decide
theorem l_with_check : ∀ ds K', P_with_check ds K' → r_with_check P_is_checked { nx := fun _ => K' (.sh .non), rt := fun r _ => K' r } (startE ["weights", "modulus", "code", "digit"] ds) := by
  rintro ds K' ⟨w, m, c, rfl, hw, hm, hm2, hc, k, k2⟩
  have ss := szL
  have e30 : (2 : Int) ^ 30 = 1073741824 := by decide
  refine And.intro (And.intro (by omega) (by omega)) ?_
  refine Exists.intro (fun (i : Nat) (e : Ev) => (∀ j, j < i → okd w m c j = false) ∧ ∃ x, e = [.sh (.lst (w.map D.int)), .sh (.int m), .sh (.lst (c.map D.int)), x]) (And.intro ⟨fun j h => by omega, _, rfl⟩ (And.intro ?_ ?_))
  · rintro i d e hd ⟨hno, x, rfl⟩
    obtain ⟨hi, rfl⟩ := rangeD_get hd
    rw [Int.zero_add]
    have el : c.map D.int ++ [.int (i : Nat)] = (c ++ [(i : Int)]).map D.int := by simp
    refine And.intro (by show 1 ≤ _; omega) (And.intro (by rw [List.length_map]; show _ + 1 ≤ _; omega) ?_)
    refine ⟨w, m, c ++ [(i : Int)], by rw [el], hw, hm, by simp; omega, ifD (fun h => ?_) (fun h => ?_)⟩
    · have hd : wcD w m c = .lst ((c ++ [(i : Int)]).map D.int) := by
        unfold wcD
        rw [find_range hi (decide_eq_true h) hno]
      refine And.intro (by show 1 ≤ _; omega) (And.intro (by rw [List.length_map]; show _ + 1 ≤ _; omega) ?_)
      have := k2 _ hd
      rw [← el] at this
      exact this
    · refine ⟨fun j hj => ?_, _, rfl⟩
      by_cases e : j = i
      · subst e; exact decide_eq_false h
      · exact hno j (by omega)
  · rintro e ⟨hno, x, rfl⟩
    rw [rangeD_len] at hno
    have hd : wcD w m c = .non := by
      unfold wcD
      rw [find_range_none hno]
    rw [hd] at k
    exact k
end K44
namespace K44
open PL
/-! ### pairs (place, gap) -/
def rowP (q : Nat → Bool) (i n : Nat) : List (Nat × Nat) := ((List.range n).filter q).map fun j => (i, j + 1)
def pairsL (q : Nat → Nat → Bool) (many : Nat) : List (Nat × Nat) := (List.range many).flatMap fun i => rowP (q i) i 9
def pairD (p : Nat × Nat) : D := .tup [.int (p.1 : Nat), .int (p.2 : Nat)]
theorem rowP_succ (q : Nat → Bool) (i n : Nat) : rowP q i (n + 1) = rowP q i n ++ if q n then [(i, n + 1)] else [] := by
  unfold rowP
  rw [List.range_succ, List.filter_append, List.map_append]
  congr 1
  rw [List.filter_cons]
  cases q n <;> simp
theorem pairsL_succ (q : Nat → Nat → Bool) (n : Nat) : pairsL q (n + 1) = pairsL q n ++ rowP (q n) n 9 := by
  unfold pairsL
  rw [List.range_succ, List.flatMap_append]
  simp
theorem rowP_len (q : Nat → Bool) (i n : Nat) : (rowP q i n).length ≤ n := by
  unfold rowP
  rw [List.length_map]
  have := List.length_filter_le q (List.range n)
  simpa using this
theorem pairsL_len (q : Nat → Nat → Bool) : ∀ n, (pairsL q n).length ≤ 9 * n
  | 0 => by simp [pairsL]
  | n + 1 => by
    rw [pairsL_succ, List.length_append]
    have := pairsL_len q n
    have := rowP_len (q n) n 9
    omega
theorem pairsL_nil (q : Nat → Nat → Bool) (n : Nat) : pairsL q n = [] ↔ ∀ i, i < n → ∀ j, j < 9 → q i j = false := by
  unfold pairsL
  rw [List.flatMap_eq_nil_iff]
  constructor
  · intro h i hi j hj
    have := h i (List.mem_range.mpr hi)
    unfold rowP at this
    have := List.map_eq_nil_iff.mp this
    have := List.filter_eq_nil_iff.mp this j (List.mem_range.mpr hj)
    simpa using this
  · intro h i hi
    unfold rowP
    rw [List.map_eq_nil_iff, List.filter_eq_nil_iff]
    intro j hj
    rw [h i (List.mem_range.mp hi) j (List.mem_range.mp hj)]; decide
def qd (w : List Int) (m : Int) (i j : Nat) : Bool := decide (wAt w i * ((j : Int) + 1) % m = 0)
def stp (w : List Int) (i : Nat) : Int := wAt w (i + 1) - wAt w i
def qs (w : List Int) (m : Int) (i j : Nat) : Bool := decide (stp w i * ((j : Int) + 1) % m = 0)
theorem smallFit (x : Int) (j : Nat) (h : j < 9) : MulFits x ((j : Int) + 1) := .inr (.inl ⟨by omega, by omega⟩)
def P_unnoticed_digits : PSp := fun ds K => ∃ (w : List Int) (m : Int) (many : Nat), ds = [.lst (w.map D.int), .int m, .int (many : Nat)] ∧ OkW w ∧ 0 < m ∧ many ≤ 1000 ∧ K (.own (.lst ((pairsL (qd w m) many).map pairD)))
theorem rngOne {K : List D → Ev → Prop} {e : Ev} (k : K (rangeD 1 9) e) : (-(2 ^ 62) ≤ (1 : Int) ∧ (1 : Int) < 2 ^ 62 ∧ -(2 ^ 62) ≤ (10 : Int) ∧ (10 : Int) < 2 ^ 62) ∧ K (rangeD 1 ((10 : Int) - 1).toNat) e := ⟨by decide, k⟩
theorem l_unnoticed_digits : ∀ ds K', P_unnoticed_digits ds K' → r_unnoticed_digits { nx := fun _ => K' (.sh .non), rt := fun r _ => K' r } (startE ["weights", "modulus", "many", "found", "at", "by"] ds) := by
  rintro ds K' ⟨w, m, many, rfl, hw, hm, hn, k⟩
  have ss := szL
  refine And.intro (by decide) (And.intro (by omega) ?_)
  refine Exists.intro (fun (i : Nat) (e : Ev) => ∃ x y, e = [.sh (.lst (w.map D.int)), .sh (.int m), .sh (.int (many : Nat)), .own (.lst ((pairsL (qd w m) i).map pairD)), x, y]) (And.intro ⟨_, _, rfl⟩ (And.intro ?_ ?_))
  · rintro i d e hd ⟨x, y, rfl⟩
    obtain ⟨hi, rfl⟩ := rangeD_get hd
    rw [Int.toNat_natCast] at hi
    rw [Int.zero_add]
    refine And.intro (by decide) ?_
    refine Exists.intro (fun (j : Nat) (e : Ev) => ∃ y, e = [.sh (.lst (w.map D.int)), .sh (.int m), .sh (.int (many : Nat)), .own (.lst ((pairsL (qd w m) i ++ rowP (qd w m i) i j).map pairD)), .sh (.int (i : Nat)), y]) (And.intro ⟨_, by simp [rowP]; rfl⟩ (And.intro ?_ ?_))
    · rintro j d e hd ⟨y, rfl⟩
      obtain ⟨hj, rfl⟩ := rangeD_get hd
      have hj : j < 9 := hj
      have ej : (1 : Int) + (j : Nat) = (j : Int) + 1 := by omega
      rw [ej]
      refine And.intro hw.ne ⟨_, _, rfl, hw.ix i, And.intro (smallFit _ j hj) (And.intro (by omega) (And.intro (And.intro trivial trivial) (ifB (fun h => ?_) (fun h => ?_))))⟩
      · rw [eqD_int, Int.fmod_eq_emod_of_nonneg _ (by omega)] at h
        have q1 := pairsL_len (qd w m) i
        have q2 := rowP_len (qd w m i) i j
        refine And.intro (by show 2 ≤ _; omega) (And.intro (by rw [List.length_map, List.length_append]; omega) ?_)
        refine (show ∃ y, _ = [Sl.sh (.lst (w.map D.int)), .sh (.int m), .sh (.int (many : Nat)), .own (.lst ((pairsL (qd w m) i ++ rowP (qd w m i) i (j + 1)).map pairD)), .sh (.int (i : Nat)), y] from ?_)
        rw [rowP_succ, if_pos (show qd w m i j = true from h)]
        simp only [List.map_append, List.append_assoc]
        exact ⟨_, rfl⟩
      · rw [eqD_int, Int.fmod_eq_emod_of_nonneg _ (by omega)] at h
        refine (show ∃ y, _ = [Sl.sh (.lst (w.map D.int)), .sh (.int m), .sh (.int (many : Nat)), .own (.lst ((pairsL (qd w m) i ++ rowP (qd w m i) i (j + 1)).map pairD)), .sh (.int (i : Nat)), y] from ?_)
        rw [rowP_succ, if_neg (by rw [show qd w m i j = false from h]; decide), List.append_nil]
        exact ⟨_, rfl⟩
    · rintro e ⟨y, rfl⟩
      refine (show ∃ x y, _ = [Sl.sh (.lst (w.map D.int)), .sh (.int m), .sh (.int (many : Nat)), .own (.lst ((pairsL (qd w m) (i + 1)).map pairD)), x, y] from ?_)
      rw [pairsL_succ]
      exact ⟨_, _, rfl⟩
  · rintro e ⟨x, y, rfl⟩
    rw [rangeD_len, Int.toNat_natCast]
    exact k
def P__law_digits : PSp := P_unnoticed_digits
def rowF (q : Nat → Bool) (i : Nat) (d : D) : Option D := match d with
  | .int b => if q (b - 1).toNat then some (.tup [.int (i : Nat), .int b]) else none
  | _ => none
theorem row_filter (q : Nat → Bool) (i : Nat) : (rangeD 1 9).filterMap (rowF q i) = (rowP q i 9).map pairD := by
  unfold rangeD rowP
  rw [List.map_map]
  refine filterMap_if (fun j => ?_) _
  show (if q ((1 : Int) + (j : Nat) - 1).toNat then some (D.tup [.int (i : Nat), .int ((1 : Int) + (j : Nat))]) else none) = _
  rw [show ((1 : Int) + (j : Nat) - 1).toNat = j by omega, show (1 : Int) + (j : Nat) = ((j + 1 : Nat) : Int) by omega]
  rfl
theorem l__law_digits : ∀ ds K', P__law_digits ds K' → r__law_digits { nx := fun _ => K' (.sh .non), rt := fun r _ => K' r } (startE ["weights", "modulus", "many", "found", "place", "gap"] ds) := by
  rintro ds K' ⟨w, m, many, rfl, hw, hm, hn, k⟩
  have ss := szL
  refine And.intro (by decide) (And.intro (by omega) ?_)
  refine Exists.intro (fun (i : Nat) (e : Ev) => ∃ x y, e = [.sh (.lst (w.map D.int)), .sh (.int m), .sh (.int (many : Nat)), .own (.lst ((pairsL (qd w m) i).map pairD)), x, y]) (And.intro ⟨_, _, rfl⟩ (And.intro ?_ ?_))
  · rintro i d e hd ⟨x, y, rfl⟩
    obtain ⟨hi, rfl⟩ := rangeD_get hd
    rw [Int.toNat_natCast] at hi
    rw [Int.zero_add]
    refine lc_filter (ds := rangeD 1 9) (rowF (qd w m i) i) (fun K k => rngOne k) (fun d Q1 Q0 hd q0 q1 => ?_) (by rw [rangeD_len]; omega) ?_
    · obtain ⟨j, hj, rfl⟩ := rangeD_mem hd
      have ej : ((1 : Int) + (j : Nat) - 1).toNat = j := by omega
      refine And.intro hw.ne ⟨_, _, rfl, hw.ix i, And.intro (by have := smallFit (wAt w i) j hj; rwa [Int.add_comm] at this) (And.intro (by omega) (And.intro (And.intro trivial trivial) (ifB (fun h => ?_) (fun h => ?_))))⟩
      · rw [eqD_int, Int.fmod_eq_emod_of_nonneg _ (by omega)] at h
        refine And.intro (by show 2 ≤ _; omega) (q1 _ (if_pos ?_))
        rw [ej]
        show decide (wAt w i * ((j : Int) + 1) % m = 0) = true
        rw [Int.add_comm (j : Int) 1]; exact h
      · rw [eqD_int, Int.fmod_eq_emod_of_nonneg _ (by omega)] at h
        refine q0 (if_neg ?_)
        rw [ej]
        show ¬ decide (wAt w i * ((j : Int) + 1) % m = 0) = true
        rw [Int.add_comm (j : Int) 1, h]; decide
    · rw [row_filter]
      have q1 := pairsL_len (qd w m) i
      have q2 := rowP_len (qd w m i) i 9
      refine And.intro (by rw [List.length_map, List.length_map]; omega) ?_
      refine (show ∃ x y, _ = [Sl.sh (.lst (w.map D.int)), .sh (.int m), .sh (.int (many : Nat)), .own (.lst ((pairsL (qd w m) (i + 1)).map pairD)), x, y] from ?_)
      rw [pairsL_succ, List.map_append]
      exact ⟨_, _, rfl⟩
  · rintro e ⟨x, y, rfl⟩
    rw [rangeD_len, Int.toNat_natCast]
    exact k
end K44
namespace K44
open PL
def P_unnoticed_swaps : PSp := fun ds K => ∃ (w : List Int) (m : Int) (many : Nat), ds = [.lst (w.map D.int), .int m, .int (many : Nat)] ∧ OkW w ∧ 0 < m ∧ many ≤ 1000 ∧ K (.own (.lst ((pairsL (qs w m) (many - 1)).map pairD)))
theorem OkW.ix1 {w : List Int} (h : OkW w) (i : Nat) : L2.atI (w.map D.int) ((((i : Nat) : Int) + 1).fmod ((w.map D.int).length : Nat)) = some (.int (wAt w (i + 1))) := by
  have := h.ix (i + 1)
  rwa [show (((i + 1 : Nat) : Nat) : Int) = ((i : Nat) : Int) + 1 by omega] at this
theorem many1 {many : Nat} (h : many ≤ 1000) : ((many : Nat) : Int) - 1 = ((many : Nat) : Int) - 1 ∧ (((many : Nat) : Int) - 1).toNat = many - 1 ∧ -(2 ^ 62) ≤ ((many : Nat) : Int) - 1 ∧ ((many : Nat) : Int) - 1 < 2 ^ 62 := by omega
theorem l_unnoticed_swaps : ∀ ds K', P_unnoticed_swaps ds K' → r_unnoticed_swaps { nx := fun _ => K' (.sh .non), rt := fun r _ => K' r } (startE ["weights", "modulus", "many", "found", "at", "step", "by"] ds) := by
  rintro ds K' ⟨w, m, many, rfl, hw, hm, hn, k⟩
  have ss := szL
  obtain ⟨_, en, n1, n2⟩ := many1 hn
  refine And.intro (by decide) (And.intro (And.intro n1 n2) ?_)
  refine Exists.intro (fun (i : Nat) (e : Ev) => ∃ x y z, e = [.sh (.lst (w.map D.int)), .sh (.int m), .sh (.int (many : Nat)), .own (.lst ((pairsL (qs w m) i).map pairD)), x, y, z]) (And.intro ⟨_, _, _, rfl⟩ (And.intro ?_ ?_))
  · rintro i d e hd ⟨x, y, z, rfl⟩
    obtain ⟨hi, rfl⟩ := rangeD_get hd
    rw [en] at hi
    rw [Int.zero_add]
    refine And.intro hw.ne ⟨_, _, rfl, hw.ix1 i, And.intro hw.ne ⟨_, _, rfl, hw.ix i, And.intro (by decide) ?_⟩⟩
    refine Exists.intro (fun (j : Nat) (e : Ev) => ∃ y, e = [.sh (.lst (w.map D.int)), .sh (.int m), .sh (.int (many : Nat)), .own (.lst ((pairsL (qs w m) i ++ rowP (qs w m i) i j).map pairD)), .sh (.int (i : Nat)), .sh (.int (stp w i)), y]) (And.intro ⟨z, by unfold stp; simp [rowP]⟩ (And.intro ?_ ?_))
    · rintro j d e hd ⟨y, rfl⟩
      obtain ⟨hj, rfl⟩ := rangeD_get hd
      have hj : j < 9 := hj
      have ej : (1 : Int) + (j : Nat) = (j : Int) + 1 := by omega
      rw [ej]
      refine And.intro (smallFit _ j hj) (And.intro (by omega) (And.intro (And.intro trivial trivial) (ifB (fun h => ?_) (fun h => ?_))))
      · rw [eqD_int, Int.fmod_eq_emod_of_nonneg _ (by omega)] at h
        have q1 := pairsL_len (qs w m) i
        have q2 := rowP_len (qs w m i) i j
        refine And.intro (by show 2 ≤ _; omega) (And.intro (by rw [List.length_map, List.length_append]; omega) ?_)
        refine (show ∃ y, _ = [Sl.sh (.lst (w.map D.int)), .sh (.int m), .sh (.int (many : Nat)), .own (.lst ((pairsL (qs w m) i ++ rowP (qs w m i) i (j + 1)).map pairD)), .sh (.int (i : Nat)), .sh (.int (stp w i)), y] from ?_)
        rw [rowP_succ, if_pos (show qs w m i j = true from h)]
        simp only [List.map_append, List.append_assoc]
        exact ⟨_, rfl⟩
      · rw [eqD_int, Int.fmod_eq_emod_of_nonneg _ (by omega)] at h
        refine (show ∃ y, _ = [Sl.sh (.lst (w.map D.int)), .sh (.int m), .sh (.int (many : Nat)), .own (.lst ((pairsL (qs w m) i ++ rowP (qs w m i) i (j + 1)).map pairD)), .sh (.int (i : Nat)), .sh (.int (stp w i)), y] from ?_)
        rw [rowP_succ, if_neg (by rw [show qs w m i j = false from h]; decide), List.append_nil]
        exact ⟨_, rfl⟩
    · rintro e ⟨y, rfl⟩
      refine (show ∃ x y z, _ = [Sl.sh (.lst (w.map D.int)), .sh (.int m), .sh (.int (many : Nat)), .own (.lst ((pairsL (qs w m) (i + 1)).map pairD)), x, y, z] from ?_)
      rw [pairsL_succ]
      exact ⟨_, _, _, rfl⟩
  · rintro e ⟨x, y, z, rfl⟩
    rw [rangeD_len, en]
    exact k
def P__law_swaps : PSp := P_unnoticed_swaps
theorem neg_mod {a m : Int} : (-a) % m = 0 ↔ a % m = 0 := by
  rw [← Int.dvd_iff_emod_eq_zero, ← Int.dvd_iff_emod_eq_zero]
  exact Int.dvd_neg
theorem l__law_swaps : ∀ ds K', P__law_swaps ds K' → r__law_swaps { nx := fun _ => K' (.sh .non), rt := fun r _ => K' r } (startE ["weights", "modulus", "many", "found", "place", "apart", "gap"] ds) := by
  rintro ds K' ⟨w, m, many, rfl, hw, hm, hn, k⟩
  have ss := szL
  obtain ⟨_, en, n1, n2⟩ := many1 hn
  refine And.intro (by decide) (And.intro (And.intro n1 n2) ?_)
  refine Exists.intro (fun (i : Nat) (e : Ev) => ∃ x y z, e = [.sh (.lst (w.map D.int)), .sh (.int m), .sh (.int (many : Nat)), .own (.lst ((pairsL (qs w m) i).map pairD)), x, y, z]) (And.intro ⟨_, _, _, rfl⟩ (And.intro ?_ ?_))
  · rintro i d e hd ⟨x, y, z, rfl⟩
    obtain ⟨hi, rfl⟩ := rangeD_get hd
    rw [en] at hi
    rw [Int.zero_add]
    refine And.intro hw.ne ⟨_, _, rfl, hw.ix i, And.intro hw.ne ⟨_, _, rfl, hw.ix1 i, ?_⟩⟩
    refine lc_filter (ds := rangeD 1 9) (rowF (qs w m i) i) (fun K k => rngOne k) (fun d Q1 Q0 hd q0 q1 => ?_) (by rw [rangeD_len]; omega) ?_
    · obtain ⟨j, hj, rfl⟩ := rangeD_mem hd
      have ej : ((1 : Int) + (j : Nat) - 1).toNat = j := by omega
      have eq : ((wAt w i - wAt w (i + 1)) * (1 + (j : Nat))).fmod m = 0 ↔ stp w i * ((j : Int) + 1) % m = 0 := by
        rw [Int.fmod_eq_emod_of_nonneg _ (by omega), ← neg_mod (a := stp w i * ((j : Int) + 1))]
        rw [show -(stp w i * ((j : Int) + 1)) = (wAt w i - wAt w (i + 1)) * (1 + (j : Nat)) by unfold stp; rw [← Int.neg_mul, Int.neg_sub, Int.add_comm (j : Int) 1]]
      refine And.intro (by have := smallFit (wAt w i - wAt w (i + 1)) j hj; rwa [Int.add_comm] at this) (And.intro (by omega) (And.intro (And.intro trivial trivial) (ifB (fun h => ?_) (fun h => ?_))))
      · rw [eqD_int] at h
        refine And.intro (by show 2 ≤ _; omega) (q1 _ (if_pos ?_))
        rw [ej]
        exact decide_eq_true (eq.mp (of_decide_eq_true h))
      · rw [eqD_int] at h
        refine q0 (if_neg ?_)
        rw [ej]
        exact fun z => of_decide_eq_false h (eq.mpr (of_decide_eq_true z))
    · rw [row_filter]
      have q1 := pairsL_len (qs w m) i
      have q2 := rowP_len (qs w m i) i 9
      refine And.intro (by rw [List.length_map, List.length_map]; omega) ?_
      refine (show ∃ x y z, _ = [Sl.sh (.lst (w.map D.int)), .sh (.int m), .sh (.int (many : Nat)), .own (.lst ((pairsL (qs w m) (i + 1)).map pairD)), x, y, z] from ?_)
      rw [pairsL_succ, List.map_append]
      exact ⟨_, _, _, rfl⟩
  · rintro e ⟨x, y, z, rfl⟩
    rw [rangeD_len, en]
    exact k
/-! ### what is noticed -/
theorem notice (x : Int) {m : Nat} (hm : 0 < m) : (∀ j : Nat, j < 9 → ¬ (x * ((j : Int) + 1) % (m : Int) = 0)) ↔ 9 < m / Nat.gcd x.natAbs m := by
  have hg : 0 < Nat.gcd x.natAbs m := Nat.gcd_pos_of_pos_right _ hm
  have key : ∀ b : Nat, x * (b : Int) % (m : Int) = 0 ↔ (m / Nat.gcd x.natAbs m) ∣ b := by
    intro b
    rw [← Int.dvd_iff_emod_eq_zero, Int.ofNat_dvd_left, Int.natAbs_mul, Int.natAbs_natCast]
    obtain ⟨m', hm'⟩ := Nat.gcd_dvd_right x.natAbs m
    obtain ⟨x', hx'⟩ := Nat.gcd_dvd_left x.natAbs m
    have hc : Nat.Coprime (m / Nat.gcd x.natAbs m) (x.natAbs / Nat.gcd x.natAbs m) := (Nat.coprime_div_gcd_div_gcd hg).symm
    have em : m / Nat.gcd x.natAbs m = m' := by
      generalize hgg : Nat.gcd x.natAbs m = g at *
      rw [hm']; exact Nat.mul_div_cancel_left m' hg
    have ex : x.natAbs / Nat.gcd x.natAbs m = x' := by
      generalize hgg : Nat.gcd x.natAbs m = g at *
      rw [hx']; exact Nat.mul_div_cancel_left x' hg
    rw [em, ex] at hc
    rw [em]
    generalize hgg : Nat.gcd x.natAbs m = g at *
    rw [hx', hm', Nat.mul_assoc, Nat.mul_dvd_mul_iff_left hg]
    exact ⟨fun h => hc.dvd_of_dvd_mul_left h, fun h => Nat.dvd_mul_left_of_dvd h _⟩
  constructor
  · intro h
    refine Nat.lt_of_not_le fun hle => ?_
    have hp : 0 < m / Nat.gcd x.natAbs m := Nat.div_pos (Nat.le_of_dvd hm (Nat.gcd_dvd_right _ _)) hg
    refine h (m / Nat.gcd x.natAbs m - 1) (by omega) ?_
    have := (key (m / Nat.gcd x.natAbs m)).mpr (Nat.dvd_refl _)
    rwa [show (((m / Nat.gcd x.natAbs m - 1 : Nat) : Int) + 1) = ((m / Nat.gcd x.natAbs m : Nat) : Int) by omega]
  · intro h j hj hz
    have := (key (j + 1)).mp (by rw [show (((j + 1 : Nat)) : Int) = (j : Int) + 1 by omega]; exact hz)
    have := Nat.le_of_dvd (by omega) this
    omega
end K44
namespace K44
open PL
theorem noticeB (x : Int) {m : Nat} (hm : 0 < m) : decide (9 < m / Nat.gcd x.natAbs m) = true ↔ ∀ j : Nat, j < 9 → decide (x * ((j : Int) + 1) % (m : Int) = 0) = false := by
  rw [decide_eq_true_iff, ← notice x hm]
  exact ⟨fun h j hj => decide_eq_false (h j hj), fun h j hj => of_decide_eq_false (h j hj)⟩
theorem gcd_okk {x : Int} {m : Nat} (hm : 0 < m) (hm2 : m < 2 ^ 30) : ((Nat.gcd x.natAbs m : Nat) : Int) ≠ 0 ∧ (((Nat.gcd x.natAbs m : Nat) : Int).natAbs < 1073741824 ∨ ((Nat.gcd x.natAbs m : Nat) : Int).natAbs.log2 < 9000) := by
  have h1 : 0 < Nat.gcd x.natAbs m := Nat.gcd_pos_of_pos_right _ hm
  have h2 : Nat.gcd x.natAbs m ≤ m := Nat.gcd_le_right _ hm
  have e : (2 : Nat) ^ 30 = 1073741824 := by decide
  exact ⟨by omega, .inl (by omega)⟩
theorem gcd_div {x : Int} {m : Nat} : ((m : Nat) : Int).fdiv ((Nat.gcd x.natAbs m : Nat) : Int) = ((m / Nat.gcd x.natAbs m : Nat) : Int) := by
  rw [Int.fdiv_eq_ediv_of_nonneg _ (by omega)]
  exact (Int.natCast_ediv _ _).symm
def P_notices_digits : PSp := fun ds K => ∃ (w : List Int) (m many : Nat), ds = [.lst (w.map D.int), .int (m : Nat), .int (many : Nat)] ∧ OkW w ∧ 0 < m ∧ m < 2 ^ 30 ∧ many ≤ 1000 ∧ K (.sh (.bl (decide (pairsL (qd w (m : Nat)) many = []))))
theorem l_notices_digits : ∀ ds K', P_notices_digits ds K' → r_notices_digits { nx := fun _ => K' (.sh .non), rt := fun r _ => K' r } (startE ["weights", "modulus", "many", "at"] ds) := by
  rintro ds K' ⟨w, m, many, rfl, hw, hm, hm2, hn, k⟩
  have ss := szL
  refine lc_map (ds := rangeD 0 many) (fun d => match d with | .int i => .bl (decide (9 < m / Nat.gcd (wAt w i.toNat).natAbs m)) | _ => .non) (fun K k => And.intro (by omega) (by rw [Int.toNat_natCast]; exact k)) (fun d Q hd q => ?_) (by rw [rangeD_len]; omega) ?_
  · obtain ⟨i, hi, rfl⟩ := rangeD_mem hd
    rw [Int.zero_add] at *
    refine And.intro hw.ne ⟨_, _, rfl, hw.ix i, And.intro (gcd_okk hm hm2) ?_⟩
    have e : (decide ((9 : Int) < ((m : Nat) : Int).fdiv ((Nat.gcd (wAt w i).natAbs m : Nat) : Int))) = decide (9 < m / Nat.gcd (wAt w i).natAbs m) := by
      rw [gcd_div]
      by_cases h : 9 < m / Nat.gcd (wAt w i).natAbs m
      · rw [decide_eq_true h, decide_eq_true (by omega)]
      · rw [decide_eq_false h, decide_eq_false (by omega)]
    have q' : Q (.bl (decide (9 < m / Nat.gcd (wAt w i).natAbs m))) _ := q
    rw [← e] at q'
    exact q'
  · refine ⟨(List.range many).map fun i => decide (9 < m / Nat.gcd (wAt w i).natAbs m), ?_, ?_⟩
    · rw [rangeD_map, List.map_map]
      refine List.map_congr_left fun i hi => ?_
      show D.bl (decide (9 < m / Nat.gcd (wAt w ((0 : Int) + (i : Nat)).toNat).natAbs m)) = _
      rw [Int.zero_add, Int.toNat_natCast]; rfl
    · have e : ((List.range many).map fun i => decide (9 < m / Nat.gcd (wAt w i).natAbs m)).all id = decide (pairsL (qd w (m : Nat)) many = []) := by
        rw [Bool.eq_iff_iff, decide_eq_true_iff, pairsL_nil, List.all_eq_true]
        constructor
        · intro h i hi j hj
          have := h _ (List.mem_map.mpr ⟨i, List.mem_range.mpr hi, rfl⟩)
          exact (noticeB _ hm).mp this j hj
        · intro h b hb
          obtain ⟨i, hi, rfl⟩ := List.mem_map.mp hb
          exact (noticeB _ hm).mpr fun j hj => h i (List.mem_range.mp hi) j hj
      rw [← e] at k
      exact k
def P_notices_swaps : PSp := fun ds K => ∃ (w : List Int) (m many : Nat), ds = [.lst (w.map D.int), .int (m : Nat), .int (many : Nat)] ∧ OkW w ∧ 0 < m ∧ m < 2 ^ 30 ∧ many ≤ 1000 ∧ K (.sh (.bl (decide (pairsL (qs w (m : Nat)) (many - 1) = []))))
theorem l_notices_swaps : ∀ ds K', P_notices_swaps ds K' → r_notices_swaps { nx := fun _ => K' (.sh .non), rt := fun r _ => K' r } (startE ["weights", "modulus", "many", "at", "step"] ds) := by
  rintro ds K' ⟨w, m, many, rfl, hw, hm, hm2, hn, k⟩
  have ss := szL
  obtain ⟨_, en, n1, n2⟩ := many1 hn
  refine And.intro (And.intro n1 n2) ?_
  refine Exists.intro (fun (i : Nat) (e : Ev) => (∀ a, a < i → ∀ j, j < 9 → qs w (m : Nat) a j = false) ∧ ∃ x y, e = [.sh (.lst (w.map D.int)), .sh (.int (m : Nat)), .sh (.int (many : Nat)), x, y]) (And.intro ⟨fun a h => by omega, _, _, rfl⟩ (And.intro ?_ ?_))
  · rintro i d e hd ⟨hno, x, y, rfl⟩
    obtain ⟨hi, rfl⟩ := rangeD_get hd
    rw [en] at hi
    rw [Int.zero_add]
    refine And.intro hw.ne ⟨_, _, rfl, hw.ix1 i, And.intro hw.ne ⟨_, _, rfl, hw.ix i, ?_⟩⟩
    refine And.intro (gcd_okk (x := stp w i) hm hm2) (ifD (fun h => ?_) (fun h => ?_))
    · have h' : ((m : Nat) : Int).fdiv ((Nat.gcd (stp w i).natAbs m : Nat) : Int) ≤ 9 := h
      rw [gcd_div] at h'
      have hq : ¬ (pairsL (qs w (m : Nat)) (many - 1) = []) := fun z => by
        have := (noticeB (stp w i) hm).mpr fun j hj => (pairsL_nil _ _).mp z i hi j hj
        have := of_decide_eq_true this
        omega
      rw [decide_eq_false hq] at k
      exact k
    · have h' : ¬ ((m : Nat) : Int).fdiv ((Nat.gcd (stp w i).natAbs m : Nat) : Int) ≤ 9 := h
      rw [gcd_div] at h'
      refine ⟨fun a ha j hj => ?_, _, _, rfl⟩
      by_cases e : a = i
      · subst e
        exact (noticeB (stp w a) hm).mp (decide_eq_true (by omega)) j hj
      · exact hno a (by omega) j hj
  · rintro e ⟨hno, x, y, rfl⟩
    rw [rangeD_len, en] at hno
    rw [decide_eq_true ((pairsL_nil _ _).mpr hno)] at k
    exact k
def okm (w : List Int) (few j : Nat) : Bool := decide (pairsL (qd w ((j + 2 : Nat) : Int)) few = []) && decide (pairsL (qs w ((j + 2 : Nat) : Int)) (few - 1) = [])
def leastD (w : List Int) (few : Nat) : D := match (List.range 999).find? (okm w few) with
  | some j => .int ((j + 2 : Nat) : Int)
  | none => .non
def P_least_modulus : PSp := fun ds K => ∃ (w : List Int) (few : Nat), ds = [.lst (w.map D.int), .int (few : Nat)] ∧ OkW w ∧ few ≤ 1000 ∧ K (.sh (leastD w few))
theorem l_least_modulus : ∀ ds K', P_least_modulus ds K' → r_least_modulus P_notices_digits P_notices_swaps { nx := fun _ => K' (.sh .non), rt := fun r _ => K' r } (startE ["weights", "many", "modulus"] ds) := by
  rintro ds K' ⟨w, few, rfl, hw, hf, k⟩
  refine And.intro (by decide) ?_
  refine Exists.intro (fun (i : Nat) (e : Ev) => (∀ j, j < i → okm w few j = false) ∧ ∃ x, e = [.sh (.lst (w.map D.int)), .sh (.int (few : Nat)), x]) (And.intro ⟨fun j h => by omega, _, rfl⟩ (And.intro ?_ ?_))
  · rintro i d e hd ⟨hno, x, rfl⟩
    obtain ⟨hi, rfl⟩ := rangeD_get hd
    have hi : i < 999 := hi
    have ei : (2 : Int) + (i : Nat) = ((i + 2 : Nat) : Int) := by omega
    rw [ei]
    have hno' : okm w few i = false → ∀ j, j < i + 1 → okm w few j = false := fun h j hj => by
      by_cases e : j = i
      · rw [e]; exact h
      · exact hno j (by omega)
    refine ⟨w, i + 2, few, rfl, hw, by omega, by omega, hf, ifD (fun h => ?_) (fun h => ?_)⟩
    · refine ⟨w, i + 2, few, rfl, hw, by omega, by omega, hf, ifD (fun h2 => ?_) (fun h2 => ?_)⟩
      · have hk : leastD w few = .int ((i + 2 : Nat) : Int) := by
          unfold leastD
          have : (List.range 999).find? (okm w few) = some i := by
            refine K44.find_range hi ?_ hno
            unfold okm
            rw [decide_eq_true h, decide_eq_true h2]; rfl
          rw [this]
        rw [hk] at k
        exact k
      · exact ⟨hno' (by unfold okm; rw [decide_eq_false h2, Bool.and_false]), _, rfl⟩
    · exact ⟨hno' (by unfold okm; rw [decide_eq_false h, Bool.false_and]), _, rfl⟩
  · rintro e ⟨hno, x, rfl⟩
    have hno : ∀ j, j < 999 → okm w few j = false := hno
    have hk : leastD w few = .non := by
      unfold leastD
      rw [find_range_none hno]
    rw [hk] at k
    exact k
end K44
namespace K44
open PL
/-! ### one digit changed -/
def sub (c : List Int) (k : Nat) (d : Int) : List Int := c.take k ++ [d] ++ c.drop (k + 1)
theorem sub_len {c : List Int} {k : Nat} (h : k < c.length) (d : Int) : (sub c k d).length = c.length := by
  unfold sub
  simp
  omega
theorem sub_map {c : List Int} {k : Nat} (d : Int) : (c.map D.int).take k ++ [.int d] ++ (c.map D.int).drop (k + 1) = (sub c k d).map D.int := by
  unfold sub
  simp
def okS (w : List Int) (m : Int) (x : List Int) : Bool := decide (sm w x % m = 0)
def lostL (w : List Int) (m : Int) (c : List Int) (k n : Nat) : List Nat := (List.range n).filter fun (d : Nat) => okS w m (sub c k (d : Int))
def intN (d : Nat) : D := .int (d : Nat)
theorem lost_succ (w : List Int) (m : Int) (c : List Int) (k n : Nat) : lostL w m c k (n + 1) = lostL w m c k n ++ if okS w m (sub c k (n : Int)) then [n] else [] := by
  unfold lostL
  rw [List.range_succ, List.filter_append]
  congr 1
  rw [List.filter_cons]
  cases okS w m (sub c k (n : Int)) <;> simp
theorem lost_len (w : List Int) (m : Int) (c : List Int) (k n : Nat) : (lostL w m c k n).length ≤ n := by
  have := List.length_filter_le (fun (d : Nat) => okS w m (sub c k (d : Int))) (List.range n)
  simpa [lostL] using this
def P_lost_digit : PSp := fun ds K => ∃ (w : List Int) (m : Int) (c : List Int) (k : Nat), ds = [.lst (w.map D.int), .int m, .lst (c.map D.int), .int (k : Nat)] ∧ OkW w ∧ 0 < m ∧ c.length ≤ 900 ∧ k < c.length ∧ K (.own (.lst ((lostL w m c k 10).map intN)))
theorem l_lost_digit : ∀ ds K', P_lost_digit ds K' → r_lost_digit P_is_checked { nx := fun _ => K' (.sh .non), rt := fun r _ => K' r } (startE ["weights", "modulus", "code", "place", "found", "digit"] ds) := by
  rintro ds K' ⟨w, m, c, kk, rfl, hw, hm, hc, hk, k⟩
  have ss := szL
  refine And.intro (by decide) (And.intro (by decide) ?_)
  refine Exists.intro (fun (i : Nat) (e : Ev) => ∃ x, e = [.sh (.lst (w.map D.int)), .sh (.int m), .sh (.lst (c.map D.int)), .sh (.int (kk : Nat)), .own (.lst ((lostL w m c kk i).map intN)), x]) (And.intro ⟨_, rfl⟩ (And.intro ?_ ?_))
  · rintro i d e hd ⟨x, rfl⟩
    obtain ⟨hi, rfl⟩ := rangeD_get hd
    have hi : i < 10 := hi
    rw [Int.zero_add]
    have e1 : cutL (c.map D.int) none (some (kk : Int)) = (c.map D.int).take kk := cut_to _ _
    have e2 : cutL (c.map D.int) (some ((kk : Int) + 1)) none = (c.map D.int).drop (kk + 1) := cut_from _ (kk + 1)
    have hl := lost_len w m c kk i
    refine And.intro (by show 1 ≤ _; omega) ?_
    refine And.intro (by rw [e1, List.length_take, List.length_map]; show min kk c.length + 1 ≤ _; omega) (And.intro ?_ ?_)
    · rw [e1, e2, List.length_append, List.length_take, List.length_drop, List.length_map]; show min kk c.length + 1 + (c.length - (kk + 1)) ≤ _; omega
    · refine ⟨w, m, sub c kk (i : Int), by rw [e1, e2, sub_map], hw, hm, by rw [sub_len hk]; omega, ifD (fun h => ?_) (fun h => ?_)⟩
      · refine And.intro (by rw [List.length_map]; omega) ?_
        refine (show ∃ x, _ = [Sl.sh (.lst (w.map D.int)), .sh (.int m), .sh (.lst (c.map D.int)), .sh (.int (kk : Nat)), .own (.lst ((lostL w m c kk (i + 1)).map intN)), x] from ?_)
        rw [lost_succ, if_pos (show okS w m (sub c kk (i : Int)) = true from decide_eq_true h), List.map_append]
        exact ⟨_, rfl⟩
      · refine (show ∃ x, _ = [Sl.sh (.lst (w.map D.int)), .sh (.int m), .sh (.lst (c.map D.int)), .sh (.int (kk : Nat)), .own (.lst ((lostL w m c kk (i + 1)).map intN)), x] from ?_)
        rw [lost_succ, if_neg (show ¬ okS w m (sub c kk (i : Int)) = true from fun z => h (of_decide_eq_true z)), List.append_nil]
        exact ⟨_, rfl⟩
  · rintro e ⟨x, rfl⟩
    exact k
/-! ### mended codes -/
def rowD (x : List Int) : D := .lst (x.map D.int)
def mrow (c : List Int) (k : Nat) (l : List Nat) : List (List Int) := (l.filter fun (d : Nat) => decide (¬ (d : Int) = c.getD k 0)).map fun (d : Nat) => sub c k (d : Int)
def nearL (w : List Int) (m : Int) (c : List Int) (n : Nat) : List (List Int) := (List.range n).flatMap fun k => mrow c k (lostL w m c k 10)
theorem near_succ (w : List Int) (m : Int) (c : List Int) (n : Nat) : nearL w m c (n + 1) = nearL w m c n ++ mrow c n (lostL w m c n 10) := by
  unfold nearL
  rw [List.range_succ, List.flatMap_append]
  simp
theorem mrow_snoc (c : List Int) (k : Nat) (l : List Nat) (d : Nat) : mrow c k (l ++ [d]) = mrow c k l ++ if (d : Int) = c.getD k 0 then [] else [sub c k (d : Int)] := by
  unfold mrow
  rw [List.filter_append, List.map_append]
  congr 1
  rw [List.filter_cons]
  by_cases h : (d : Int) = c.getD k 0
  · rw [if_pos h, decide_eq_false (fun z => z h)]; rfl
  · rw [if_neg h, decide_eq_true h]; rfl
theorem mrow_len (c : List Int) (k : Nat) (l : List Nat) : (mrow c k l).length ≤ l.length := by
  unfold mrow
  rw [List.length_map]
  exact List.length_filter_le _ _
theorem near_len (w : List Int) (m : Int) (c : List Int) : ∀ n, (nearL w m c n).length ≤ 10 * n
  | 0 => by simp [nearL]
  | n + 1 => by
    rw [near_succ, List.length_append]
    have := near_len w m c n
    have := mrow_len c n (lostL w m c n 10)
    have := lost_len w m c n 10
    omega
theorem alike_rows (x y : List Int) : PySem.W.alike (py (rowD x)) (py (rowD y)) = true := by
  show PySem.W.alike (.list (pyA (x.map D.int))) (.list (pyA (y.map D.int))) = true
  rw [PySem.W.alike]
  have h : ∀ z : List Int, pyA (z.map D.int) = z.map PySem.PyData.int := fun z => by rw [pyA_map, List.map_map]; rfl
  rw [h, h]
  exact PySem.W.alike_ints x y
theorem srt_rows {l : List (List Int)} (h : l.length ≤ PySem.sizeLine) : SrtOk (l.map rowD) := by
  have mem : ∀ d ∈ pyA (l.map rowD), ∃ x, d = py (rowD x) := fun d hd => by
    rw [pyA_map] at hd
    obtain ⟨y, hy, rfl⟩ := List.mem_map.mp hd
    obtain ⟨x, _, rfl⟩ := List.mem_map.mp hy
    exact ⟨x, rfl⟩
  refine ⟨fun d hd d' hd' => ?_, .inr fun d hd => ?_, fun d hd => ?_, by rw [List.length_map]; exact h⟩
  · obtain ⟨x, rfl⟩ := mem d hd
    obtain ⟨y, rfl⟩ := mem d' hd'
    exact alike_rows x y
  · obtain ⟨x, rfl⟩ := mem d hd
    exact ⟨(fun z => nomatch z), (fun xs z => nomatch z)⟩
  · obtain ⟨x, _, rfl⟩ := List.mem_map.mp hd
    exact sh_ints 19 x
def P_mended : PSp := fun ds K => ∃ (w : List Int) (m : Int) (c : List Int), ds = [.lst (w.map D.int), .int m, .lst (c.map D.int)] ∧ OkW w ∧ 0 < m ∧ c.length ≤ 900 ∧ K (.own (.lst (srtD ((nearL w m c c.length).map rowD))))
theorem l_mended : ∀ ds K', P_mended ds K' → r_mended P_lost_digit { nx := fun _ => K' (.sh .non), rt := fun r _ => K' r } (startE ["weights", "modulus", "code", "found", "at", "own", "digit"] ds) := by
  rintro ds K' ⟨w, m, c, rfl, hw, hm, hc, k⟩
  have ss := szL
  refine And.intro (by decide) ?_
  refine Exists.intro (fun (i : Nat) (e : Ev) => ∃ x y z, e = [.sh (.lst (w.map D.int)), .sh (.int m), .sh (.lst (c.map D.int)), .own (.lst ((nearL w m c i).map rowD)), x, y, z]) (And.intro ⟨_, _, _, rfl⟩ (And.intro ?_ ?_))
  · rintro i d e hd ⟨x, y, z, rfl⟩
    obtain ⟨j, v, hv, rfl⟩ := enumD_mem (List.mem_of_getElem? hd)
    have hij : j = i := by
      rw [enumD_get] at hd
      cases e : (c.map D.int)[i]? with
      | none => rw [e] at hd; cases hd
      | some u => rw [e] at hd; injection hd with hd; injection hd with hd; injection hd with hd; injection hd with hd; omega
    subst hij
    have hi : j < c.length := by
      have := (List.getElem?_eq_some_iff.mp hv).1
      rwa [List.length_map] at this
    rw [getI hi] at hv
    cases hv
    refine And.intro rfl ⟨w, m, c, j, rfl, hw, hm, hc, hi, ?_⟩
    refine Exists.intro (fun (a : Nat) (e : Ev) => ∃ z, e = [.sh (.lst (w.map D.int)), .sh (.int m), .sh (.lst (c.map D.int)), .own (.lst ((nearL w m c j ++ mrow c j ((lostL w m c j 10).take a)).map rowD)), .sh (.int (j : Nat)), .sh (.int (c.getD j 0)), z]) (And.intro ⟨z, by simp [mrow]⟩ (And.intro ?_ ?_))
    · rintro a d e hd ⟨z, rfl⟩
      rw [List.getElem?_map] at hd
      cases el : (lostL w m c j 10)[a]? with
      | none => rw [el] at hd; cases hd
      | some g =>
        rw [el] at hd
        cases hd
        have et : (lostL w m c j 10).take (a + 1) = (lostL w m c j 10).take a ++ [g] := by rw [List.take_add_one, el]; rfl
        have e1 : cutL (c.map D.int) none (some (j : Int)) = (c.map D.int).take j := cut_to _ _
        have e2 : cutL (c.map D.int) (some ((j : Int) + 1)) none = (c.map D.int).drop (j + 1) := cut_from _ (j + 1)
        have q1 := near_len w m c j
        have q2 := mrow_len c j ((lostL w m c j 10).take a)
        have q3 := lost_len w m c j 10
        have q4 : ((lostL w m c j 10).take a).length ≤ (lostL w m c j 10).length := by rw [List.length_take]; omega
        refine And.intro (And.intro trivial trivial) (ifB (fun h => ?_) (fun h => ?_))
        · have h1 : ¬ (g : Int) = c.getD j 0 := by
            have h' : (!eqD (.int (g : Nat)) (.int (c.getD j 0))) = true := h
            rw [eqD_int] at h'
            simpa using h'
          refine And.intro (by show 1 ≤ _; omega) (And.intro (by rw [e1, List.length_take, List.length_map]; show min j c.length + 1 ≤ _; omega) (And.intro ?_ (And.intro ?_ ?_)))
          · rw [e1, e2, List.length_append, List.length_take, List.length_drop, List.length_map]; show min j c.length + 1 + (c.length - (j + 1)) ≤ _; omega
          · rw [List.length_map, List.length_append]; omega
          · refine (show ∃ z, _ = [Sl.sh (.lst (w.map D.int)), .sh (.int m), .sh (.lst (c.map D.int)), .own (.lst ((nearL w m c j ++ mrow c j ((lostL w m c j 10).take (a + 1))).map rowD)), .sh (.int (j : Nat)), .sh (.int (c.getD j 0)), z] from ?_)
            rw [et, mrow_snoc, if_neg h1, e1, e2, show intN g = .int (g : Nat) from rfl, sub_map]
            simp only [List.map_append, List.append_assoc]
            exact ⟨_, rfl⟩
        · have h1 : (g : Int) = c.getD j 0 := by
            have h' : (!eqD (.int (g : Nat)) (.int (c.getD j 0))) = false := h
            rw [eqD_int] at h'
            simpa using h'
          refine (show ∃ z, _ = [Sl.sh (.lst (w.map D.int)), .sh (.int m), .sh (.lst (c.map D.int)), .own (.lst ((nearL w m c j ++ mrow c j ((lostL w m c j 10).take (a + 1))).map rowD)), .sh (.int (j : Nat)), .sh (.int (c.getD j 0)), z] from ?_)
          rw [et, mrow_snoc, if_pos h1, List.append_nil]
          exact ⟨_, rfl⟩
    · rintro e ⟨z, rfl⟩
      rw [List.length_map, List.take_length]
      refine (show ∃ x y z, _ = [Sl.sh (.lst (w.map D.int)), .sh (.int m), .sh (.lst (c.map D.int)), .own (.lst ((nearL w m c (j + 1)).map rowD)), x, y, z] from ?_)
      rw [near_succ]
      exact ⟨_, _, _, rfl⟩
  · rintro e ⟨x, y, z, rfl⟩
    rw [enumD_len, List.length_map]
    have := near_len w m c c.length
    exact And.intro (srt_rows (by omega)) k
/-! ### slips -/
def P_judge_slip : PSp := fun ds K => ∃ (w : List Int) (m : Int) (c o : List Int), ds = [.lst (w.map D.int), .int m, .lst (c.map D.int), .lst (o.map D.int)] ∧ OkW w ∧ 0 < m ∧ c.length ≤ 900 ∧ c.length = o.length ∧ c ≠ o ∧ K (.sh (.bl (decide (sm w c % m = 0) && decide (sm w o % m = 0))))
theorem l_judge_slip : ∀ ds K', P_judge_slip ds K' → r_judge_slip P_is_checked { nx := fun _ => K' (.sh .non), rt := fun r _ => K' r } (startE ["weights", "modulus", "code", "other"] ds) := by
  rintro ds K' ⟨w, m, c, o, rfl, hw, hm, hc, hl, hne, k⟩
  refine And.intro (And.intro trivial trivial) (ifB (fun h => ?_) (fun h => ?_))
  · have h' : (!eqD (.int ((c.map D.int).length : Nat)) (.int ((o.map D.int).length : Nat))) = true := h
    rw [eqD_int, List.length_map, List.length_map, hl] at h'
    simp at h'
  · refine And.intro (And.intro (sh_ints 19 c) (sh_ints 19 o)) (ifB (fun h => ?_) (fun h => ?_))
    · have h' : eqD (.lst (c.map D.int)) (.lst (o.map D.int)) = true := h
      rw [eqD_li] at h'
      exact absurd (of_decide_eq_true h') hne
    · refine ⟨w, m, c, rfl, hw, hm, by omega, ifD (fun h1 => ?_) (fun h1 => ?_)⟩
      · rw [decide_eq_true h1, Bool.true_and] at k
        exact ⟨w, m, o, rfl, hw, hm, by omega, k⟩
      · rw [decide_eq_false h1, Bool.false_and] at k
        rw [decide_eq_false h1]
        exact k
end K44
namespace K44
open PL
/-! ### the least modulus, as the law looks for it -/
theorem emp_pairs (l : List (Nat × Nat)) : (l.map pairD).isEmpty = decide (l = []) := by
  cases l <;> simp
theorem sh_pairs (l : List (Nat × Nat)) : Sh 20 (.lst (l.map pairD)) := fun d hd => by
  obtain ⟨p, _, rfl⟩ := List.mem_map.mp hd
  intro x hx
  simp only [List.mem_cons, List.not_mem_nil, or_false] at hx
  rcases hx with rfl | rfl <;> trivial
def lstF (w : List Int) (few : Nat) (d : D) : Option D := match d with
  | .int b => if okm w few (b - 2).toNat then some (.int b) else none
  | _ => none
theorem lstF_at (w : List Int) (few j : Nat) : lstF w few (.int ((2 : Int) + (j : Nat))) = if okm w few j then some (.int ((j + 2 : Nat) : Int)) else none := by
  show (if okm w few ((2 : Int) + (j : Nat) - 2).toNat then some (D.int ((2 : Int) + (j : Nat))) else none) = _
  rw [show ((2 : Int) + (j : Nat) - 2).toNat = j by omega, show (2 : Int) + (j : Nat) = ((j + 2 : Nat) : Int) by omega]
def tail4 : TSp := (sSq (sSet 18 (pOp2 pAdd (pC (.int 1)) (pCallI 1 P__law_draw (pCons (pC (.int 3)) pNil))))
    (sSq (sSet 19 (qLc (pRng2 (pCons (pC (.int 2)) (pCons (pC (.int 60)) pNil))) (gNm 20) (pAnd (pTst (pOp2 pEq (pCall P__law_digits (pCons (pVar 2) (pCons (pVar 20) (pCons (pVar 18) pNil)))) (pLst pNil))) (pTst (pOp2 pEq (pCall P__law_swaps (pCons (pVar 2) (pCons (pVar 20) (pCons (pVar 18) pNil)))) (pLst pNil)))) (pVar 20) [20]))
    (sSq (sSet 21 (pCall P_least_modulus (pCons (pVar 2) (pCons (pVar 18) pNil))))
    (sSq (sIf (pTst (pOp2 pNe (pVar 19) (pLst pNil))) (sRet (pCall P__law_same (pCons (pVar 21) (pCons (pOp2 pIx (pVar 19) (pC (.int 0))) pNil)))) sNx)
    (sRet (pOrV (pOp2 (pIs false) (pVar 21) (pC .non)) (pOp2 pGt (pVar 21) (pC (.int 59)))))))))
theorem filter_find {p : Nat → Bool} {n k : Nat} {x : Nat} {r : List Nat} (h : (List.range n).filter p = x :: r) : (List.range (n + k)).find? p = some x := by
  rw [List.range_add, List.find?_append]
  have : (List.range n).find? p = some x := by
    rw [← List.head?_filter, h]; rfl
  rw [this]; rfl
theorem filter_find0 {p : Nat → Bool} {n k : Nat} (h : (List.range n).filter p = []) : ∀ x, (List.range (n + k)).find? p = some x → n ≤ x := by
  intro x hx
  have h1 := List.find?_some hx
  refine Nat.le_of_not_lt fun hlt => ?_
  have := List.filter_eq_nil_iff.mp h x (List.mem_range.mpr hlt)
  exact this h1
theorem least_same {w : List Int} {few : Nat} {x : Nat} {r : List Nat} (h : (List.range 58).filter (okm w few) = x :: r) : leastD w few = .int ((x + 2 : Nat) : Int) := by
  unfold leastD
  rw [show (999 : Nat) = 58 + 941 from rfl, filter_find h]
theorem least_far {w : List Int} {few : Nat} (h : (List.range 58).filter (okm w few) = []) : leastD w few = .non ∨ ∃ i : Int, leastD w few = .int i ∧ 59 < i := by
  unfold leastD
  cases e : (List.range 999).find? (okm w few) with
  | none => exact .inl rfl
  | some j =>
    have := filter_find0 (k := 941) h j e
    exact .inr ⟨_, rfl, by omega⟩
theorem tail4_ok {K' : Rv → Prop} {ns w : List Int} {n : Nat} {s3 s4 s5 s6 s7 s8 s9 s10 s11 s12 s13 s14 s15 s16 s17 s18 s19 s20 s21 : Sl} (hn : n < 2 ^ 60) (hw : OkW w) (k : K' (.sh (.bl true))) :
    tail4 { nx := fun _ => K' (.sh .non), rt := fun r _ => K' r } [.sh (.lck (ns.map D.int)), .own (.pool n), .sh (.lst (w.map D.int)), s3, s4, s5, s6, s7, s8, s9, s10, s11, s12, s13, s14, s15, s16, s17, s18, s19, s20, s21] := by
  have ss := szL
  refine ⟨n, 3, rfl, rfl, by decide, by decide, hn, fun v v0 v1 => ?_⟩
  obtain ⟨few, hf⟩ : ∃ few : Nat, few = (1 + v).toNat := ⟨_, rfl⟩
  have hfe : (1 : Int) + v = ((few : Nat) : Int) := by omega
  refine (show (sSq (sSet 19 (qLc (pRng2 (pCons (pC (.int 2)) (pCons (pC (.int 60)) pNil))) (gNm 20) (pAnd (pTst (pOp2 pEq (pCall P__law_digits (pCons (pVar 2) (pCons (pVar 20) (pCons (pVar 18) pNil)))) (pLst pNil))) (pTst (pOp2 pEq (pCall P__law_swaps (pCons (pVar 2) (pCons (pVar 20) (pCons (pVar 18) pNil)))) (pLst pNil)))) (pVar 20) [20]))
    (sSq (sSet 21 (pCall P_least_modulus (pCons (pVar 2) (pCons (pVar 18) pNil))))
    (sSq (sIf (pTst (pOp2 pNe (pVar 19) (pLst pNil))) (sRet (pCall P__law_same (pCons (pVar 21) (pCons (pOp2 pIx (pVar 19) (pC (.int 0))) pNil)))) sNx)
    (sRet (pOrV (pOp2 (pIs false) (pVar 21) (pC .non)) (pOp2 pGt (pVar 21) (pC (.int 59)))))))) { nx := fun _ => K' (.sh .non), rt := fun r _ => K' r } [.sh (.lck (ns.map D.int)), .own (.pool (n + 1)), .sh (.lst (w.map D.int)), s3, s4, s5, s6, s7, s8, s9, s10, s11, s12, s13, s14, s15, s16, s17, .sh (.int (1 + v)), s19, s20, s21] from ?_)
  rw [hfe]
  refine lc_filter (ds := rangeD 2 58) (lstF w few) (fun K k => And.intro (by decide) k) (fun d Q1 Q0 hd q0 q1 => ?_) (by rw [rangeD_len]; omega) ?_
  · obtain ⟨j, hj, rfl⟩ := rangeD_mem hd
    have ej : (2 : Int) + (j : Nat) = ((j + 2 : Nat) : Int) := by omega
    rw [lstF_at] at q0 q1
    rw [ej]
    refine ⟨w, ((j + 2 : Nat) : Int), few, rfl, hw, by omega, by omega, And.intro (by decide) (And.intro (And.intro (sh_pairs _) (sh_lst0 19)) (ifB (fun h => ?_) (fun h => ?_)))⟩
    · refine ⟨w, ((j + 2 : Nat) : Int), few, rfl, hw, by omega, by omega, And.intro (by decide) (And.intro (And.intro (sh_pairs _) (sh_lst0 19)) (ifB (fun h2 => ?_) (fun h2 => ?_)))⟩
      · rw [eqD_nil, emp_pairs] at h h2
        refine q1 _ (if_pos ?_)
        unfold okm
        rw [h, h2]; rfl
      · rw [eqD_nil, emp_pairs] at h h2
        refine q0 (if_neg ?_)
        unfold okm
        rw [h, h2]; decide
    · rw [eqD_nil, emp_pairs] at h
      refine q0 (if_neg ?_)
      unfold okm
      rw [h, Bool.false_and]; decide
  · have es : (rangeD 2 58).filterMap (lstF w few) = ((List.range 58).filter (okm w few)).map fun j => D.int ((j + 2 : Nat) : Int) := by
      unfold rangeD
      exact filterMap_if (fun j => lstF_at w few j) _
    rw [es]
    refine ⟨w, few, rfl, hw, by omega, And.intro (by decide) (And.intro (And.intro ?_ (sh_lst0 19)) ?_)⟩
    · intro d hd
      obtain ⟨j, _, rfl⟩ := List.mem_map.mp hd
      trivial
    · cases hf58 : (List.range 58).filter (okm w few) with
      | nil =>
        have hk : (sRet (pOrV (pOp2 (pIs false) (pVar 21) (pC .non)) (pOp2 pGt (pVar 21) (pC (.int 59))))) { nx := fun _ => K' (.sh .non), rt := fun r _ => K' r } [.sh (.lck (ns.map D.int)), .own (.pool (n + 1)), .sh (.lst (w.map D.int)), s3, s4, s5, s6, s7, s8, s9, s10, s11, s12, s13, s14, s15, s16, s17, .sh (.int (few : Nat)), .own (.lst []), s20, .sh (leastD w few)] := by
          rcases least_far hf58 with e | ⟨i, e, hi⟩
          · rw [e]; exact k
          · rw [e]
            refine (show K' (.sh (.bl (decide (59 < i)))) from ?_)
            rw [decide_eq_true hi]; exact k
        exact hk
      | cons x r =>
        refine ⟨0, .int ((x + 2 : Nat) : Int), rfl, atI_nn (Int.le_refl 0) (by simp), ?_⟩
        rw [least_same hf58]
        exact same_use (okInt 8 _) k
end K44
namespace K44
open PL
/-! ### sums of changed codes -/
theorem sum_one {f g : Nat → Int} {k : Nat} : ∀ {n : Nat}, (∀ i, i < n → i ≠ k → f i = g i) → ((List.range n).map f).sum = ((List.range n).map g).sum + (if k < n then f k - g k else 0)
  | 0, _ => by simp
  | n + 1, h => by
    have ih := sum_one (f := f) (g := g) (k := k) (n := n) fun i hi => h i (by omega)
    rw [List.range_succ, List.map_append, List.map_append, List.sum_append, List.sum_append, ih]
    simp only [List.map_cons, List.map_nil, List.sum_cons, List.sum_nil]
    by_cases e : k = n
    · subst e
      rw [if_neg (Nat.lt_irrefl k), if_pos (Nat.lt_succ_self k)]; omega
    · rw [h n (Nat.lt_succ_self n) (fun z => e z.symm)]
      by_cases e2 : k < n
      · rw [if_pos e2, if_pos (by omega)]; omega
      · rw [if_neg e2, if_neg (by omega)]; omega
theorem sub_at {c : List Int} {k : Nat} (h : k < c.length) (d : Int) (i : Nat) : (sub c k d).getD i 0 = if i = k then d else c.getD i 0 := by
  unfold sub
  rw [List.getD_eq_getElem?_getD, List.getD_eq_getElem?_getD]
  have h1 : (c.take k).length = k := by rw [List.length_take]; omega
  by_cases e : i = k
  · rw [if_pos e, e, List.getElem?_append_left (by simp; omega), List.getElem?_append_right (by omega), h1]; simp
  · rw [if_neg e]
    by_cases e2 : i < k
    · rw [List.getElem?_append_left (by simp; omega), List.getElem?_append_left (by omega), List.getElem?_take, if_pos e2]
    · rw [List.getElem?_append_right (by simp; omega), List.getElem?_drop]
      congr 2
      simp; omega
theorem sm_sub {w c : List Int} {k : Nat} (h : k < c.length) (d : Int) : sm w (sub c k d) = sm w c + wAt w k * (d - c.getD k 0) := by
  unfold sm
  rw [sub_len h]
  have e := sum_one (f := fun i => wAt w i * (sub c k d).getD i 0) (g := fun i => wAt w i * c.getD i 0) (k := k) (n := c.length) fun i hi hne => by
    show wAt w i * (sub c k d).getD i 0 = wAt w i * c.getD i 0
    rw [sub_at h, if_neg hne]
  rw [e, if_pos h]
  show _ + (wAt w k * (sub c k d).getD k 0 - wAt w k * c.getD k 0) = _
  rw [sub_at h, if_pos rfl, Int.mul_sub]
def swp (c : List Int) (k : Nat) : List Int := c.take k ++ [c.getD (k + 1) 0, c.getD k 0] ++ c.drop (k + 2)
theorem swp_eq {c : List Int} {k : Nat} (h : k + 1 < c.length) : swp c k = sub (sub c k (c.getD (k + 1) 0)) (k + 1) (c.getD k 0) := by
  have h1 : (c.take k).length = k := by rw [List.length_take]; omega
  have e1 : (sub c k (c.getD (k + 1) 0)).take (k + 1) = c.take k ++ [c.getD (k + 1) 0] := by
    unfold sub
    rw [List.take_append_of_le_length (by simp; omega), List.take_of_length_le (by simp; omega)]
  have e2 : (sub c k (c.getD (k + 1) 0)).drop (k + 1 + 1) = c.drop (k + 2) := by
    unfold sub
    rw [List.drop_append, List.drop_of_length_le (by simp; omega), List.nil_append, List.drop_drop]
    congr 1
    simp; omega
  unfold swp
  rw [show sub (sub c k (c.getD (k + 1) 0)) (k + 1) (c.getD k 0) = (sub c k (c.getD (k + 1) 0)).take (k + 1) ++ [c.getD k 0] ++ (sub c k (c.getD (k + 1) 0)).drop (k + 1 + 1) from rfl, e1, e2]
  simp
theorem sm_swp {w c : List Int} {k : Nat} (h : k + 1 < c.length) : sm w (swp c k) = sm w c + stp w k * (c.getD k 0 - c.getD (k + 1) 0) := by
  rw [swp_eq h, sm_sub (by rw [sub_len (by omega)]; exact h), sm_sub (by omega), sub_at (by omega), if_neg (by omega)]
  unfold stp
  have e : wAt w k * (c.getD (k + 1) 0 - c.getD k 0) = - (wAt w k * (c.getD k 0 - c.getD (k + 1) 0)) := by rw [← Int.mul_neg, Int.neg_sub]
  rw [e, Int.sub_mul]; omega
theorem swp_len {c : List Int} {k : Nat} (h : k + 1 < c.length) : (swp c k).length = c.length := by rw [swp_eq h, sub_len (by rw [sub_len (by omega)]; exact h), sub_len (by omega)]
theorem swp_map {c : List Int} {k : Nat} : (c.map D.int).take k ++ [.int (c.getD (k + 1) 0), .int (c.getD k 0)] ++ (c.map D.int).drop (k + 2) = (swp c k).map D.int := by
  unfold swp; simp
theorem mod_add {a b m : Int} : ((a + b) % m = a % m) ↔ b % m = 0 := by
  rw [Int.emod_eq_emod_iff_emod_sub_eq_zero]
  rw [show a + b - a = b by omega]
/-! ### pairs that stand -/
theorem mem_pairs {q : Nat → Nat → Bool} {n i b : Nat} : (i, b) ∈ pairsL q n ↔ i < n ∧ 1 ≤ b ∧ b ≤ 9 ∧ q i (b - 1) = true := by
  unfold pairsL rowP
  rw [List.mem_flatMap]
  constructor
  · rintro ⟨a, ha, hm⟩
    obtain ⟨j, hj, e⟩ := List.mem_map.mp hm
    obtain ⟨h1, h2⟩ := List.mem_filter.mp hj
    cases e
    exact ⟨List.mem_range.mp ha, by omega, by have := List.mem_range.mp h1; omega, h2⟩
  · rintro ⟨h1, h2, h3, h4⟩
    exact ⟨i, List.mem_range.mpr h1, List.mem_map.mpr ⟨b - 1, List.mem_filter.mpr ⟨List.mem_range.mpr (by omega), h4⟩, by rw [Nat.sub_add_cancel h2]⟩⟩
theorem any_pairs (l : List (Nat × Nat)) (i b : Nat) : ((l.map pairD).any fun z => eqD z (.tup [.int (i : Nat), .int (b : Nat)])) = decide ((i, b) ∈ l) := by
  rw [Bool.eq_iff_iff, List.any_eq_true, decide_eq_true_iff]
  constructor
  · rintro ⟨d, hd, he⟩
    obtain ⟨⟨x, y⟩, hp, rfl⟩ := List.mem_map.mp hd
    have := (eqD_t2 x y i b).symm.trans he
    obtain ⟨h1, h2⟩ := of_decide_eq_true this
    have h1 : x = i := by omega
    have h2 : y = b := by omega
    rw [← h1, ← h2]; exact hp
  · intro h
    exact ⟨_, List.mem_map.mpr ⟨_, h, rfl⟩, (eqD_t2 i b i b).trans (decide_eq_true ⟨rfl, rfl⟩)⟩
theorem in_pairs {l : List (Nat × Nat)} {i b : Nat} {K : Rv → Prop} (k : K (.sh (.bl (decide ((i, b) ∈ l))))) : pIn false (.tup [.int (i : Nat), .int (b : Nat)]) (.lst (l.map pairD)) K := by
  refine And.intro (And.intro ?_ (sh_pairs l)) ?_
  · intro x hx
    simp only [List.mem_cons, List.not_mem_nil, or_false] at hx
    rcases hx with rfl | rfl <;> trivial
  · rw [← any_pairs, ← Bool.false_bne ((l.map pairD).any _)] at k
    exact k
end K44
namespace K44
open PL
theorem sh_t2 (a b : Int) : Sh 20 (.tup [.int a, .int b]) := by
  intro x hx
  simp only [List.mem_cons, List.not_mem_nil, or_false] at hx
  rcases hx with rfl | rfl <;> trivial
theorem in_eq (l : List (Nat × Nat)) (i b : Nat) : (false != (l.map pairD).any fun z => eqD z (.tup [.int (i : Nat), .int (b : Nat)])) = decide ((i, b) ∈ l) := by
  rw [any_pairs, Bool.false_bne]
abbrev evL (ns w c : List Int) (n : Nat) (m total : Int) (many : Nat) (s3 s8 s9 s12 s13 s14 s15 s16 s17 s18 s19 s20 s21 : Sl) : Ev := [.sh (.lck (ns.map D.int)), .own (.pool n), .sh (.lst (w.map D.int)), s3, .sh (.int m), .sh (.int (many : Nat)), .sh (.lst (c.map D.int)), .sh (.int total), s8, s9, .sh (.lst ((pairsL (qd w m) many).map pairD)), .sh (.lst ((pairsL (qs w m) (many - 1)).map pairD)), s12, s13, s14, s15, s16, s17, s18, s19, s20, s21]
def gapsT : TSp := (sFor (pRng2 (pCons (pC (.int 1)) (pCons (pC (.int 10)) pNil))) (gNm 15) (sIf (pTst (pOp2 pLt (pOp2 pAdd (pOp2 pIx (pVar 6) (pVar 3)) (pVar 15)) (pC (.int 10)))) (sSq (sSet 16 (pOp2 pAdd (pOp2 pAdd (pSlc (pVar 6) oNo (oSome (pVar 3))) (pLst (pCons (pOp2 pAdd (pOp2 pIx (pVar 6) (pVar 3)) (pVar 15)) pNil))) (pSlc (pVar 6) (oSome (pOp2 pAdd (pVar 3) (pC (.int 1)))) oNo)))
    (sSq (sIf (pTst (pOp2 pNe (pOp2 pEq (pCall P__law_sum (pCons (pVar 2) (pCons (pVar 4) (pCons (pVar 16) pNil)))) (pVar 7)) (pOp2 (pIn false) (pTup (pCons (pVar 3) (pCons (pVar 15) pNil))) (pVar 10)))) (sRet (pC (.bl false))) sNx)
    (sIf (pNot (pTru (pCall P__law_same (pCons (pCall P_judge_slip (pCons (pVar 2) (pCons (pVar 4) (pCons (pVar 6) (pCons (pVar 16) pNil))))) (pCons (pAndV (pOp2 pEq (pVar 7) (pC (.int 0))) (pOp2 (pIn false) (pTup (pCons (pVar 3) (pCons (pVar 15) pNil))) (pVar 10))) pNil))))) (sRet (pC (.bl false))) sNx))) sNx))
theorem gap_eq {w c : List Int} {m : Int} {many k j : Nat} (hk : k < c.length) (hkm : k < many) (hj : j < 9) : (sm w (sub c k (c.getD k 0 + ((j + 1 : Nat) : Int))) % m = sm w c % m) ↔ (k, j + 1) ∈ pairsL (qd w m) many := by
  rw [sm_sub hk, mod_add, mem_pairs]
  rw [show c.getD k 0 + ((j + 1 : Nat) : Int) - c.getD k 0 = (j : Int) + 1 by omega]
  rw [show j + 1 - 1 = j by omega]
  unfold qd
  rw [decide_eq_true_iff]
  exact ⟨fun h => ⟨hkm, by omega, by omega, h⟩, fun h => h.2.2.2⟩
theorem gaps_ok {K0 : Rv → Ev → Prop} {Kn : Ev → Prop} {ns w c : List Int} {n many k : Nat} {m : Int} {s8 s9 s12 s13 s14 s15 s16 s17 s18 s19 s20 s21 : Sl} (hw : OkW w) (hm : 0 < m) (hc : c.length ≤ 100) (hk : k < c.length) (hkm : k < many)
    (kn : ∀ s15 s16 : Sl, Kn (evL ns w c n m (sm w c % m) many (.sh (.int (k : Nat))) s8 s9 s12 s13 s14 s15 s16 s17 s18 s19 s20 s21)) :
    gapsT { nx := Kn, rt := K0 } (evL ns w c n m (sm w c % m) many (.sh (.int (k : Nat))) s8 s9 s12 s13 s14 s15 s16 s17 s18 s19 s20 s21) := by
  have ss := szL
  refine And.intro (by decide) ?_
  refine Exists.intro (fun (j : Nat) (e : Ev) => ∃ s15 s16 : Sl, e = evL ns w c n m (sm w c % m) many (.sh (.int (k : Nat))) s8 s9 s12 s13 s14 s15 s16 s17 s18 s19 s20 s21) (And.intro ⟨_, _, rfl⟩ (And.intro ?_ ?_))
  · rintro j d e hd ⟨t15, t16, rfl⟩
    obtain ⟨hj, rfl⟩ := rangeD_get hd
    have hj : j < 9 := hj
    have ej : (1 : Int) + (j : Nat) = ((j + 1 : Nat) : Int) := by omega
    rw [ej]
    refine ⟨_, _, rfl, L2.atI_nat (getI hk), ifD (fun h => ?_) (fun h => ⟨_, _, rfl⟩)⟩
    have e1 : cutL (c.map D.int) none (some (k : Int)) = (c.map D.int).take k := cut_to _ _
    have e2 : cutL (c.map D.int) (some ((k : Int) + 1)) none = (c.map D.int).drop (k + 1) := cut_from _ (k + 1)
    refine ⟨_, _, rfl, L2.atI_nat (getI hk), And.intro (by show 1 ≤ _; omega) (And.intro (by rw [e1, List.length_take, List.length_map]; show min k c.length + 1 ≤ _; omega) (And.intro ?_ ?_))⟩
    · rw [e1, e2, List.length_append, List.length_take, List.length_drop, List.length_map]; show min k c.length + 1 + (c.length - (k + 1)) ≤ _; omega
    · have hg := gap_eq (w := w) (m := m) hk hkm hj
      have hx : eqD (.int (sm w (sub c k (c.getD k 0 + ((j + 1 : Nat) : Int))) % m)) (.int (sm w c % m)) = decide ((k, j + 1) ∈ pairsL (qd w m) many) := by
        rw [eqD_int]
        by_cases z : (k, j + 1) ∈ pairsL (qd w m) many
        · rw [decide_eq_true z, decide_eq_true (hg.mpr z)]
        · rw [decide_eq_false z, decide_eq_false (fun y => z (hg.mp y))]
      rw [e1, e2, sub_map]
      have hl := sub_len hk (c.getD k 0 + ((j + 1 : Nat) : Int))
      refine ⟨w, m, sub c k (c.getD k 0 + ((j + 1 : Nat) : Int)), rfl, hw, hm, by omega, And.intro (And.intro trivial trivial) (And.intro (by show 2 ≤ _; omega) (And.intro (And.intro (sh_t2 _ _) (sh_pairs _)) (And.intro (And.intro trivial trivial) (ifB (fun h => ?_) (fun h => ?_)))))⟩
      · rw [hx, in_eq, eqD_bl] at h
        simp at h
      · refine ⟨w, m, c, sub c k (c.getD k 0 + ((j + 1 : Nat) : Int)), rfl, hw, hm, by omega, hl.symm, ?_, ?_⟩
        · intro z
          have := congrArg (fun l => l.getD k 0) z
          have h2 : (sub c k (c.getD k 0 + ((j + 1 : Nat) : Int))).getD k 0 = c.getD k 0 + ((j + 1 : Nat) : Int) := by rw [sub_at hk, if_pos rfl]
          rw [h2] at this
          omega
        · refine And.intro (And.intro trivial trivial) (ifB (fun h0 => ?_) (fun h0 => ?_))
          · rw [eqD_int] at h0
            have h0' : sm w c % m = 0 := of_decide_eq_true h0
            refine And.intro (by show 2 ≤ _; omega) (And.intro (And.intro (sh_t2 _ _) (sh_pairs _)) ?_)
            have e : (decide (sm w c % m = 0) && decide (sm w (sub c k (c.getD k 0 + ((j + 1 : Nat) : Int))) % m = 0)) = decide ((k, j + 1) ∈ pairsL (qd w m) many) := by
              rw [decide_eq_true h0', Bool.true_and]
              rw [h0'] at hg
              by_cases z : (k, j + 1) ∈ pairsL (qd w m) many
              · rw [decide_eq_true z, decide_eq_true (hg.mpr z)]
              · rw [decide_eq_false z, decide_eq_false (fun y => z (hg.mp y))]
            rw [e, ← in_eq]
            exact same_use (okBl 8 _) ⟨_, _, rfl⟩
          · rw [eqD_int] at h0
            have h0' := of_decide_eq_false h0
            have e : (decide (sm w c % m = 0) && decide (sm w (sub c k (c.getD k 0 + ((j + 1 : Nat) : Int))) % m = 0)) = eqD (.int (sm w c % m)) (.int 0) := by
              rw [eqD_int, h0, Bool.false_and]
            rw [e]
            exact same_use (okBl 8 _) ⟨_, _, rfl⟩
  · rintro e ⟨t15, t16, rfl⟩
    exact kn _ _
end K44
namespace K44
open PL
/-! ### lost digits -/
def lostF (w : List Int) (m : Int) (c : List Int) (k : Nat) (d : D) : Option D := match d with
  | .int b => if okS w m (sub c k b) then some (.int b) else none
  | _ => none
theorem lost_filter (w : List Int) (m : Int) (c : List Int) (k : Nat) : (rangeD 0 10).filterMap (lostF w m c k) = (lostL w m c k 10).map intN := by
  unfold rangeD lostL
  refine filterMap_if (fun j => ?_) _
  show (if okS w m (sub c k ((0 : Int) + (j : Nat))) then some (D.int ((0 : Int) + (j : Nat))) else none) = _
  rw [Int.zero_add]
  rfl
def lostT : TSp := (sIf (pTst (pOp2 pEq (pVar 7) (pC (.int 0)))) (sSq (sSet 17 (qLc (pRng1 (pCons (pC (.int 10)) pNil)) (gNm 9) (pTst (pOp2 pEq (pCall P__law_sum (pCons (pVar 2) (pCons (pVar 4) (pCons (pOp2 pAdd (pOp2 pAdd (pSlc (pVar 6) oNo (oSome (pVar 3))) (pLst (pCons (pVar 9) pNil))) (pSlc (pVar 6) (oSome (pOp2 pAdd (pVar 3) (pC (.int 1)))) oNo)) pNil)))) (pC (.int 0)))) (pVar 9) [9]))
    (sIf (pNot (pTru (pCall P__law_same (pCons (pCall P_lost_digit (pCons (pVar 2) (pCons (pVar 4) (pCons (pVar 6) (pCons (pVar 3) pNil))))) (pCons (pVar 17) pNil))))) (sRet (pC (.bl false))) sNx)) sNx)
theorem ok_nats (n : Nat) {l : List Nat} (h : l.length < 16777216) : Ok (n + 1) (.lst (l.map intN)) := ⟨by rw [List.length_map]; exact h, fun d hd => by
  obtain ⟨x, _, rfl⟩ := List.mem_map.mp hd
  cases n <;> trivial⟩
theorem lost_ok {K0 : Rv → Ev → Prop} {Kn : Ev → Prop} {ns w c : List Int} {n many k : Nat} {m : Int} {s8 s9 s12 s13 s14 s15 s16 s17 s18 s19 s20 s21 : Sl} (hw : OkW w) (hm : 0 < m) (hc : c.length ≤ 100) (hk : k < c.length)
    (kn : ∀ s17 : Sl, Kn (evL ns w c n m (sm w c % m) many (.sh (.int (k : Nat))) s8 s9 s12 s13 s14 s15 s16 s17 s18 s19 s20 s21)) :
    lostT { nx := Kn, rt := K0 } (evL ns w c n m (sm w c % m) many (.sh (.int (k : Nat))) s8 s9 s12 s13 s14 s15 s16 s17 s18 s19 s20 s21) := by
  have ss := szL
  have e1 : cutL (c.map D.int) none (some (k : Int)) = (c.map D.int).take k := cut_to _ _
  have e2 : cutL (c.map D.int) (some ((k : Int) + 1)) none = (c.map D.int).drop (k + 1) := cut_from _ (k + 1)
  refine And.intro (And.intro trivial trivial) (ifB (fun h => ?_) (fun h => kn _))
  refine lc_filter (ds := rangeD 0 10) (lostF w m c k) (fun K k => And.intro (by decide) k) (fun d Q1 Q0 hd q0 q1 => ?_) (by rw [rangeD_len]; omega) ?_
  · obtain ⟨j, hj, rfl⟩ := rangeD_mem hd
    rw [Int.zero_add] at *
    refine And.intro (by show 1 ≤ _; omega) (And.intro (by rw [e1, List.length_take, List.length_map]; show min k c.length + 1 ≤ _; omega) (And.intro ?_ ?_))
    · rw [e1, e2, List.length_append, List.length_take, List.length_drop, List.length_map]; show min k c.length + 1 + (c.length - (k + 1)) ≤ _; omega
    · rw [e1, e2, sub_map]
      have hl := sub_len hk (j : Int)
      refine ⟨w, m, sub c k (j : Int), rfl, hw, hm, by omega, And.intro (And.intro trivial trivial) (ifB (fun h => ?_) (fun h => ?_))⟩
      · rw [eqD_int] at h
        exact q1 _ (if_pos h)
      · rw [eqD_int] at h
        refine q0 (if_neg ?_)
        show ¬ decide (sm w (sub c k (j : Int)) % m = 0) = true
        rw [h]; decide
  · rw [lost_filter]
    have hl := lost_len w m c k 10
    refine ⟨w, m, c, k, rfl, hw, hm, by omega, hk, ?_⟩
    exact same_use (ok_nats 7 (by omega)) (kn _)
/-! ### exchanged neighbours -/
def swpT : TSp := (sIf (pAnd (pTst (pOp2 pLt (pOp2 pAdd (pVar 3) (pC (.int 1))) (pVar 5))) (pTst (pOp2 pNe (pOp2 pIx (pVar 6) (pVar 3)) (pOp2 pIx (pVar 6) (pOp2 pAdd (pVar 3) (pC (.int 1))))))) (sSq (sSet 16 (pOp2 pAdd (pOp2 pAdd (pSlc (pVar 6) oNo (oSome (pVar 3))) (pLst (pCons (pOp2 pIx (pVar 6) (pOp2 pAdd (pVar 3) (pC (.int 1)))) (pCons (pOp2 pIx (pVar 6) (pVar 3)) pNil)))) (pSlc (pVar 6) (oSome (pOp2 pAdd (pVar 3) (pC (.int 2)))) oNo)))
    (sIf (pTst (pOp2 pNe (pOp2 pEq (pCall P__law_sum (pCons (pVar 2) (pCons (pVar 4) (pCons (pVar 16) pNil)))) (pVar 7)) (pOp2 (pIn false) (pTup (pCons (pVar 3) (pCons (pCB bAbs (pCons (pOp2 pSub (pOp2 pIx (pVar 6) (pVar 3)) (pOp2 pIx (pVar 6) (pOp2 pAdd (pVar 3) (pC (.int 1))))) pNil)) pNil))) (pVar 11)))) (sRet (pC (.bl false))) sNx)) sNx)
theorem swp_iff {w c : List Int} {m : Int} {many k : Nat} (hk : k + 1 < c.length) (hkm : k < many - 1) (hd : ∀ x ∈ c, 0 ≤ x ∧ x ≤ 9) (hne : c.getD k 0 ≠ c.getD (k + 1) 0) : (sm w (swp c k) % m = sm w c % m) ↔ (k, (c.getD k 0 - c.getD (k + 1) 0).natAbs) ∈ pairsL (qs w m) (many - 1) := by
  have g : ∀ i, i < c.length → 0 ≤ c.getD i 0 ∧ c.getD i 0 ≤ 9 := fun i hi => by
    refine hd _ ?_
    rw [List.getD_eq_getElem?_getD, List.getElem?_eq_getElem hi]
    exact List.getElem_mem hi
  have g1 := g k (by omega)
  have g2 := g (k + 1) hk
  rw [sm_swp hk, mod_add, mem_pairs]
  generalize c.getD k 0 = a at *
  generalize c.getD (k + 1) 0 = b at *
  unfold qs
  rw [decide_eq_true_iff]
  have e : stp w k * (a - b) % m = 0 ↔ stp w k * ((((a - b).natAbs - 1 : Nat) : Int) + 1) % m = 0 := by
    rcases Int.lt_or_gt_of_ne hne with h | h
    · rw [show (((a - b).natAbs - 1 : Nat) : Int) + 1 = -(a - b) by omega, Int.mul_neg, neg_mod]
    · rw [show (((a - b).natAbs - 1 : Nat) : Int) + 1 = a - b by omega]
  exact ⟨fun h => ⟨hkm, by omega, by omega, e.mp h⟩, fun h => e.mpr h.2.2.2⟩
theorem swp_ok {K0 : Rv → Ev → Prop} {Kn : Ev → Prop} {ns w c : List Int} {n many k : Nat} {m : Int} {s8 s9 s12 s13 s14 s15 s16 s17 s18 s19 s20 s21 : Sl} (hw : OkW w) (hm : 0 < m) (hc : c.length ≤ 100) (hk : k < c.length) (hcm : c.length = many) (hd : ∀ x ∈ c, 0 ≤ x ∧ x ≤ 9)
    (kn : ∀ s16 : Sl, Kn (evL ns w c n m (sm w c % m) many (.sh (.int (k : Nat))) s8 s9 s12 s13 s14 s15 s16 s17 s18 s19 s20 s21)) :
    swpT { nx := Kn, rt := K0 } (evL ns w c n m (sm w c % m) many (.sh (.int (k : Nat))) s8 s9 s12 s13 s14 s15 s16 s17 s18 s19 s20 s21) := by
  have ss := szL
  refine ifD (fun h => ?_) (fun h => kn _)
  have h' : ((k : Nat) : Int) + 1 < ((many : Nat) : Int) := h
  have hk1 : k + 1 < c.length := by omega
  have ek : ((k : Nat) : Int) + 1 = ((k + 1 : Nat) : Int) := by omega
  have at1 : L2.atI (c.map D.int) (((k : Nat) : Int) + 1) = some (.int (c.getD (k + 1) 0)) := by rw [ek]; exact L2.atI_nat (getI hk1)
  refine ⟨_, _, rfl, L2.atI_nat (getI hk), _, _, rfl, at1, And.intro (And.intro trivial trivial) (ifB (fun h2 => ?_) (fun h2 => kn _))⟩
  have hne : c.getD k 0 ≠ c.getD (k + 1) 0 := by
    have h2' : (!eqD (.int (c.getD k 0)) (.int (c.getD (k + 1) 0))) = true := h2
    rw [eqD_int] at h2'
    simpa using h2'
  have e1 : cutL (c.map D.int) none (some (k : Int)) = (c.map D.int).take k := cut_to _ _
  have e2 : cutL (c.map D.int) (some ((k : Int) + 2)) none = (c.map D.int).drop (k + 2) := cut_from _ (k + 2)
  refine ⟨_, _, rfl, at1, _, _, rfl, L2.atI_nat (getI hk), And.intro (by show 2 ≤ _; omega) (And.intro (by rw [e1, List.length_take, List.length_map]; show min k c.length + 2 ≤ _; omega) (And.intro ?_ ?_))⟩
  · rw [e1, e2, List.length_append, List.length_take, List.length_drop, List.length_map]; show min k c.length + 2 + (c.length - (k + 2)) ≤ _; omega
  · rw [e1, e2, swp_map]
    have hl := swp_len hk1
    refine ⟨w, m, swp c k, rfl, hw, hm, by omega, And.intro (And.intro trivial trivial) ⟨_, _, rfl, L2.atI_nat (getI hk), _, _, rfl, at1, And.intro (by show 2 ≤ _; omega) (And.intro (And.intro (sh_t2 _ _) (sh_pairs _)) (And.intro (And.intro trivial trivial) (ifB (fun h => ?_) (fun h => kn _))))⟩⟩
    have hg := swp_iff (w := w) (m := m) (many := many) hk1 (by omega) hd hne
    have hx : eqD (.int (sm w (swp c k) % m)) (.int (sm w c % m)) = decide ((k, (c.getD k 0 - c.getD (k + 1) 0).natAbs) ∈ pairsL (qs w m) (many - 1)) := by
      rw [eqD_int]
      by_cases z : (k, (c.getD k 0 - c.getD (k + 1) 0).natAbs) ∈ pairsL (qs w m) (many - 1)
      · rw [decide_eq_true z, decide_eq_true (hg.mpr z)]
      · rw [decide_eq_false z, decide_eq_false (fun y => z (hg.mp y))]
    have eabs : (if c.getD k 0 - c.getD (k + 1) 0 < 0 then -(c.getD k 0 - c.getD (k + 1) 0) else c.getD k 0 - c.getD (k + 1) 0) = (((c.getD k 0 - c.getD (k + 1) 0).natAbs : Nat) : Int) := by split <;> omega
    rw [eabs, hx, in_eq, eqD_bl] at h
    simp at h
end K44
namespace K44
open PL
/-! ### the near ones -/
def everyF (c : List Int) (k : Nat) (d : D) : Option D := match d with
  | .int b => if decide (¬ b = c.getD k 0) then some (rowD (sub c k b)) else none
  | _ => none
def everyL (c : List Int) (k : Nat) : List (List Int) := ((List.range 10).filter fun (d : Nat) => decide (¬ (d : Int) = c.getD k 0)).map fun (d : Nat) => sub c k (d : Int)
theorem every_filter (c : List Int) (k : Nat) : (rangeD 0 10).filterMap (everyF c k) = (everyL c k).map rowD := by
  unfold rangeD everyL
  rw [List.map_map]
  refine filterMap_if (fun j => ?_) _
  show (if decide (¬ ((0 : Int) + (j : Nat)) = c.getD k 0) then some (rowD (sub c k ((0 : Int) + (j : Nat)))) else none) = _
  rw [Int.zero_add]
  rfl
theorem every_len (c : List Int) (k : Nat) : (everyL c k).length ≤ 10 := by
  unfold everyL
  rw [List.length_map]
  have := List.length_filter_le (fun (d : Nat) => decide (¬ (d : Int) = c.getD k 0)) (List.range 10)
  simpa using this
theorem every_mem {c : List Int} {k : Nat} (hk : k < c.length) {x : List Int} (h : x ∈ everyL c k) : x.length = c.length := by
  unfold everyL at h
  obtain ⟨d, _, rfl⟩ := List.mem_map.mp h
  exact sub_len hk _
theorem every_near (w : List Int) (m : Int) (c : List Int) (k : Nat) : (everyL c k).filter (okS w m) = mrow c k (lostL w m c k 10) := by
  unfold everyL mrow lostL
  rw [List.filter_map, List.filter_filter, List.filter_filter]
  congr 1
  refine List.filter_congr fun d _ => ?_
  rw [Bool.and_comm]
  rfl
def oneF (w : List Int) (m : Int) (d : D) : Option D := match d with
  | .lst xs => if okS w m (xs.map fun x => match x with | .int i => i | _ => 0) then some (.lst xs) else none
  | _ => none
theorem oneF_at (w : List Int) (m : Int) (x : List Int) : oneF w m (rowD x) = if okS w m x then some (rowD x) else none := by
  show (if okS w m ((x.map D.int).map fun x => match x with | .int i => i | _ => 0) then some (D.lst (x.map D.int)) else none) = _
  rw [List.map_map, show ((fun x => match x with | .int i => i | _ => 0) ∘ D.int) = (id : Int → Int) from rfl, List.map_id]
  rfl
def nearT : TSp := (sFor (pRng1 (pCons (pVar 5) pNil)) (gNm 3) (sSq (sSet 13 (qLc (pRng1 (pCons (pC (.int 10)) pNil)) (gNm 9) (pTst (pOp2 pNe (pVar 9) (pOp2 pIx (pVar 6) (pVar 3)))) (pOp2 pAdd (pOp2 pAdd (pSlc (pVar 6) oNo (oSome (pVar 3))) (pLst (pCons (pVar 9) pNil))) (pSlc (pVar 6) (oSome (pOp2 pAdd (pVar 3) (pC (.int 1)))) oNo)) [9]))
    (sSet 12 (pOp2 pAdd (pVar 12) (qLc (pIt (pVar 13)) (gNm 14) (pTst (pOp2 pEq (pCall P__law_sum (pCons (pVar 2) (pCons (pVar 4) (pCons (pVar 14) pNil)))) (pC (.int 0)))) (pVar 14) [14])))))
theorem near_ok {K0 : Rv → Ev → Prop} {Kn : Ev → Prop} {ns w c : List Int} {n many : Nat} {m total : Int} {s3 s8 s9 s13 s14 s15 s16 s17 s18 s19 s20 s21 : Sl} (hw : OkW w) (hm : 0 < m) (hc : c.length ≤ 100) (hcm : c.length = many)
    (kn : ∀ s3 s13 : Sl, Kn (evL ns w c n m total many s3 s8 s9 (.own (.lst ((nearL w m c many).map rowD))) s13 s14 s15 s16 s17 s18 s19 s20 s21)) :
    nearT { nx := Kn, rt := K0 } (evL ns w c n m total many s3 s8 s9 (.own (.lst [])) s13 s14 s15 s16 s17 s18 s19 s20 s21) := by
  have ss := szL
  refine And.intro (by omega) ?_
  refine Exists.intro (fun (k : Nat) (e : Ev) => ∃ s3 s13 : Sl, e = evL ns w c n m total many s3 s8 s9 (.own (.lst ((nearL w m c k).map rowD))) s13 s14 s15 s16 s17 s18 s19 s20 s21) (And.intro ⟨_, _, rfl⟩ (And.intro ?_ ?_))
  · rintro k d e hd ⟨t3, t13, rfl⟩
    obtain ⟨hk, rfl⟩ := rangeD_get hd
    rw [Int.toNat_natCast] at hk
    have hk' : k < c.length := by omega
    rw [Int.zero_add]
    have e1 : cutL (c.map D.int) none (some (k : Int)) = (c.map D.int).take k := cut_to _ _
    have e2 : cutL (c.map D.int) (some ((k : Int) + 1)) none = (c.map D.int).drop (k + 1) := cut_from _ (k + 1)
    refine lc_filter (ds := rangeD 0 10) (everyF c k) (fun K k => And.intro (by decide) k) (fun d Q1 Q0 hd q0 q1 => ?_) (by rw [rangeD_len]; omega) ?_
    · obtain ⟨j, hj, rfl⟩ := rangeD_mem hd
      rw [Int.zero_add] at *
      refine ⟨_, _, rfl, L2.atI_nat (getI hk'), And.intro (And.intro trivial trivial) (ifB (fun h => ?_) (fun h => ?_))⟩
      · have h1 : ¬ (j : Int) = c.getD k 0 := by
          have h' : (!eqD (.int (j : Nat)) (.int (c.getD k 0))) = true := h
          rw [eqD_int] at h'
          simpa using h'
        refine And.intro (by show 1 ≤ _; omega) (And.intro (by rw [e1, List.length_take, List.length_map]; show min k c.length + 1 ≤ _; omega) (And.intro ?_ ?_))
        · rw [e1, e2, List.length_append, List.length_take, List.length_drop, List.length_map]; show min k c.length + 1 + (c.length - (k + 1)) ≤ _; omega
        · rw [e1, e2, sub_map]
          exact q1 _ (if_pos (decide_eq_true h1))
      · have h1 : (j : Int) = c.getD k 0 := by
          have h' : (!eqD (.int (j : Nat)) (.int (c.getD k 0))) = false := h
          rw [eqD_int] at h'
          simpa using h'
        exact q0 (if_neg (by rw [decide_eq_false (fun z => z h1)]; decide))
    · rw [every_filter]
      have hl := every_len c k
      refine lc_filter2 (ds := (everyL c k).map rowD) (oneF w m) (fun K k => k) (fun d Q1 Q0 hd q0 q1 => ?_) (by rw [List.length_map]; omega) ?_
      · obtain ⟨x, hx, rfl⟩ := List.mem_map.mp hd
        rw [oneF_at] at q0 q1
        have hxl := every_mem hk' hx
        refine ⟨w, m, x, rfl, hw, hm, by omega, And.intro (And.intro trivial trivial) (ifB (fun h => ?_) (fun h => ?_))⟩
        · rw [eqD_int] at h
          exact q1 _ (if_pos h)
        · rw [eqD_int] at h
          exact q0 (if_neg (by show ¬ decide (sm w x % m = 0) = true; rw [h]; decide))
      · have es : ((everyL c k).map rowD).filterMap (oneF w m) = (mrow c k (lostL w m c k 10)).map rowD := by
          rw [← every_near]
          exact filterMap_if (fun x => oneF_at w m x) _
        rw [es]
        have q1 := near_len w m c k
        have q2 := mrow_len c k (lostL w m c k 10)
        have q3 := lost_len w m c k 10
        refine And.intro (by rw [List.length_map, List.length_map]; omega) ?_
        refine (show ∃ s3 s13 : Sl, _ = evL ns w c n m total many s3 s8 s9 (.own (.lst ((nearL w m c (k + 1)).map rowD))) s13 s14 s15 s16 s17 s18 s19 s20 s21 from ?_)
        rw [near_succ, List.map_append]
        exact ⟨_, _, rfl⟩
  · rintro e ⟨t3, t13, rfl⟩
    rw [rangeD_len, Int.toNat_natCast]
    exact kn _ _
end K44
namespace K44
open PL
def t16 : TSp := (sSq (sFor (pRng1 (pCons (pVar 5) pNil)) (gNm 3) (sSq (sFor (pRng2 (pCons (pC (.int 1)) (pCons (pC (.int 10)) pNil))) (gNm 15) (sIf (pTst (pOp2 pLt (pOp2 pAdd (pOp2 pIx (pVar 6) (pVar 3)) (pVar 15)) (pC (.int 10)))) (sSq (sSet 16 (pOp2 pAdd (pOp2 pAdd (pSlc (pVar 6) oNo (oSome (pVar 3))) (pLst (pCons (pOp2 pAdd (pOp2 pIx (pVar 6) (pVar 3)) (pVar 15)) pNil))) (pSlc (pVar 6) (oSome (pOp2 pAdd (pVar 3) (pC (.int 1)))) oNo)))
    (sSq (sIf (pTst (pOp2 pNe (pOp2 pEq (pCall P__law_sum (pCons (pVar 2) (pCons (pVar 4) (pCons (pVar 16) pNil)))) (pVar 7)) (pOp2 (pIn false) (pTup (pCons (pVar 3) (pCons (pVar 15) pNil))) (pVar 10)))) (sRet (pC (.bl false))) sNx)
    (sIf (pNot (pTru (pCall P__law_same (pCons (pCall P_judge_slip (pCons (pVar 2) (pCons (pVar 4) (pCons (pVar 6) (pCons (pVar 16) pNil))))) (pCons (pAndV (pOp2 pEq (pVar 7) (pC (.int 0))) (pOp2 (pIn false) (pTup (pCons (pVar 3) (pCons (pVar 15) pNil))) (pVar 10))) pNil))))) (sRet (pC (.bl false))) sNx))) sNx))
    (sSq (sIf (pTst (pOp2 pEq (pVar 7) (pC (.int 0)))) (sSq (sSet 17 (qLc (pRng1 (pCons (pC (.int 10)) pNil)) (gNm 9) (pTst (pOp2 pEq (pCall P__law_sum (pCons (pVar 2) (pCons (pVar 4) (pCons (pOp2 pAdd (pOp2 pAdd (pSlc (pVar 6) oNo (oSome (pVar 3))) (pLst (pCons (pVar 9) pNil))) (pSlc (pVar 6) (oSome (pOp2 pAdd (pVar 3) (pC (.int 1)))) oNo)) pNil)))) (pC (.int 0)))) (pVar 9) [9]))
    (sIf (pNot (pTru (pCall P__law_same (pCons (pCall P_lost_digit (pCons (pVar 2) (pCons (pVar 4) (pCons (pVar 6) (pCons (pVar 3) pNil))))) (pCons (pVar 17) pNil))))) (sRet (pC (.bl false))) sNx)) sNx)
    (sIf (pAnd (pTst (pOp2 pLt (pOp2 pAdd (pVar 3) (pC (.int 1))) (pVar 5))) (pTst (pOp2 pNe (pOp2 pIx (pVar 6) (pVar 3)) (pOp2 pIx (pVar 6) (pOp2 pAdd (pVar 3) (pC (.int 1))))))) (sSq (sSet 16 (pOp2 pAdd (pOp2 pAdd (pSlc (pVar 6) oNo (oSome (pVar 3))) (pLst (pCons (pOp2 pIx (pVar 6) (pOp2 pAdd (pVar 3) (pC (.int 1)))) (pCons (pOp2 pIx (pVar 6) (pVar 3)) pNil)))) (pSlc (pVar 6) (oSome (pOp2 pAdd (pVar 3) (pC (.int 2)))) oNo)))
    (sIf (pTst (pOp2 pNe (pOp2 pEq (pCall P__law_sum (pCons (pVar 2) (pCons (pVar 4) (pCons (pVar 16) pNil)))) (pVar 7)) (pOp2 (pIn false) (pTup (pCons (pVar 3) (pCons (pCB bAbs (pCons (pOp2 pSub (pOp2 pIx (pVar 6) (pVar 3)) (pOp2 pIx (pVar 6) (pOp2 pAdd (pVar 3) (pC (.int 1))))) pNil)) pNil))) (pVar 11)))) (sRet (pC (.bl false))) sNx)) sNx))))
    (sSq (sSet 18 (pOp2 pAdd (pC (.int 1)) (pCallI 1 P__law_draw (pCons (pC (.int 3)) pNil))))
    (sSq (sSet 19 (qLc (pRng2 (pCons (pC (.int 2)) (pCons (pC (.int 60)) pNil))) (gNm 20) (pAnd (pTst (pOp2 pEq (pCall P__law_digits (pCons (pVar 2) (pCons (pVar 20) (pCons (pVar 18) pNil)))) (pLst pNil))) (pTst (pOp2 pEq (pCall P__law_swaps (pCons (pVar 2) (pCons (pVar 20) (pCons (pVar 18) pNil)))) (pLst pNil)))) (pVar 20) [20]))
    (sSq (sSet 21 (pCall P_least_modulus (pCons (pVar 2) (pCons (pVar 18) pNil))))
    (sSq (sIf (pTst (pOp2 pNe (pVar 19) (pLst pNil))) (sRet (pCall P__law_same (pCons (pVar 21) (pCons (pOp2 pIx (pVar 19) (pC (.int 0))) pNil)))) sNx)
    (sRet (pOrV (pOp2 (pIs false) (pVar 21) (pC .non)) (pOp2 pGt (pVar 21) (pC (.int 59))))))))))
def t15 : TSp := (sSq (sIf (pNot (pTru (pCall P__law_same (pCons (pCall P_mended (pCons (pVar 2) (pCons (pVar 4) (pCons (pVar 6) pNil)))) (pCons (pCB bSorted (pCons (pVar 12) pNil)) pNil))))) (sRet (pC (.bl false))) sNx)
    (sSq (sFor (pRng1 (pCons (pVar 5) pNil)) (gNm 3) (sSq (sFor (pRng2 (pCons (pC (.int 1)) (pCons (pC (.int 10)) pNil))) (gNm 15) (sIf (pTst (pOp2 pLt (pOp2 pAdd (pOp2 pIx (pVar 6) (pVar 3)) (pVar 15)) (pC (.int 10)))) (sSq (sSet 16 (pOp2 pAdd (pOp2 pAdd (pSlc (pVar 6) oNo (oSome (pVar 3))) (pLst (pCons (pOp2 pAdd (pOp2 pIx (pVar 6) (pVar 3)) (pVar 15)) pNil))) (pSlc (pVar 6) (oSome (pOp2 pAdd (pVar 3) (pC (.int 1)))) oNo)))
    (sSq (sIf (pTst (pOp2 pNe (pOp2 pEq (pCall P__law_sum (pCons (pVar 2) (pCons (pVar 4) (pCons (pVar 16) pNil)))) (pVar 7)) (pOp2 (pIn false) (pTup (pCons (pVar 3) (pCons (pVar 15) pNil))) (pVar 10)))) (sRet (pC (.bl false))) sNx)
    (sIf (pNot (pTru (pCall P__law_same (pCons (pCall P_judge_slip (pCons (pVar 2) (pCons (pVar 4) (pCons (pVar 6) (pCons (pVar 16) pNil))))) (pCons (pAndV (pOp2 pEq (pVar 7) (pC (.int 0))) (pOp2 (pIn false) (pTup (pCons (pVar 3) (pCons (pVar 15) pNil))) (pVar 10))) pNil))))) (sRet (pC (.bl false))) sNx))) sNx))
    (sSq (sIf (pTst (pOp2 pEq (pVar 7) (pC (.int 0)))) (sSq (sSet 17 (qLc (pRng1 (pCons (pC (.int 10)) pNil)) (gNm 9) (pTst (pOp2 pEq (pCall P__law_sum (pCons (pVar 2) (pCons (pVar 4) (pCons (pOp2 pAdd (pOp2 pAdd (pSlc (pVar 6) oNo (oSome (pVar 3))) (pLst (pCons (pVar 9) pNil))) (pSlc (pVar 6) (oSome (pOp2 pAdd (pVar 3) (pC (.int 1)))) oNo)) pNil)))) (pC (.int 0)))) (pVar 9) [9]))
    (sIf (pNot (pTru (pCall P__law_same (pCons (pCall P_lost_digit (pCons (pVar 2) (pCons (pVar 4) (pCons (pVar 6) (pCons (pVar 3) pNil))))) (pCons (pVar 17) pNil))))) (sRet (pC (.bl false))) sNx)) sNx)
    (sIf (pAnd (pTst (pOp2 pLt (pOp2 pAdd (pVar 3) (pC (.int 1))) (pVar 5))) (pTst (pOp2 pNe (pOp2 pIx (pVar 6) (pVar 3)) (pOp2 pIx (pVar 6) (pOp2 pAdd (pVar 3) (pC (.int 1))))))) (sSq (sSet 16 (pOp2 pAdd (pOp2 pAdd (pSlc (pVar 6) oNo (oSome (pVar 3))) (pLst (pCons (pOp2 pIx (pVar 6) (pOp2 pAdd (pVar 3) (pC (.int 1)))) (pCons (pOp2 pIx (pVar 6) (pVar 3)) pNil)))) (pSlc (pVar 6) (oSome (pOp2 pAdd (pVar 3) (pC (.int 2)))) oNo)))
    (sIf (pTst (pOp2 pNe (pOp2 pEq (pCall P__law_sum (pCons (pVar 2) (pCons (pVar 4) (pCons (pVar 16) pNil)))) (pVar 7)) (pOp2 (pIn false) (pTup (pCons (pVar 3) (pCons (pCB bAbs (pCons (pOp2 pSub (pOp2 pIx (pVar 6) (pVar 3)) (pOp2 pIx (pVar 6) (pOp2 pAdd (pVar 3) (pC (.int 1))))) pNil)) pNil))) (pVar 11)))) (sRet (pC (.bl false))) sNx)) sNx))))
    (sSq (sSet 18 (pOp2 pAdd (pC (.int 1)) (pCallI 1 P__law_draw (pCons (pC (.int 3)) pNil))))
    (sSq (sSet 19 (qLc (pRng2 (pCons (pC (.int 2)) (pCons (pC (.int 60)) pNil))) (gNm 20) (pAnd (pTst (pOp2 pEq (pCall P__law_digits (pCons (pVar 2) (pCons (pVar 20) (pCons (pVar 18) pNil)))) (pLst pNil))) (pTst (pOp2 pEq (pCall P__law_swaps (pCons (pVar 2) (pCons (pVar 20) (pCons (pVar 18) pNil)))) (pLst pNil)))) (pVar 20) [20]))
    (sSq (sSet 21 (pCall P_least_modulus (pCons (pVar 2) (pCons (pVar 18) pNil))))
    (sSq (sIf (pTst (pOp2 pNe (pVar 19) (pLst pNil))) (sRet (pCall P__law_same (pCons (pVar 21) (pCons (pOp2 pIx (pVar 19) (pC (.int 0))) pNil)))) sNx)
    (sRet (pOrV (pOp2 (pIs false) (pVar 21) (pC .non)) (pOp2 pGt (pVar 21) (pC (.int 59)))))))))))
def t12 : TSp := (sSq (sSet 12 (pLst pNil))
    (sSq (sFor (pRng1 (pCons (pVar 5) pNil)) (gNm 3) (sSq (sSet 13 (qLc (pRng1 (pCons (pC (.int 10)) pNil)) (gNm 9) (pTst (pOp2 pNe (pVar 9) (pOp2 pIx (pVar 6) (pVar 3)))) (pOp2 pAdd (pOp2 pAdd (pSlc (pVar 6) oNo (oSome (pVar 3))) (pLst (pCons (pVar 9) pNil))) (pSlc (pVar 6) (oSome (pOp2 pAdd (pVar 3) (pC (.int 1)))) oNo)) [9]))
    (sSet 12 (pOp2 pAdd (pVar 12) (qLc (pIt (pVar 13)) (gNm 14) (pTst (pOp2 pEq (pCall P__law_sum (pCons (pVar 2) (pCons (pVar 4) (pCons (pVar 14) pNil)))) (pC (.int 0)))) (pVar 14) [14])))))
    (sSq (sIf (pNot (pTru (pCall P__law_same (pCons (pCall P_mended (pCons (pVar 2) (pCons (pVar 4) (pCons (pVar 6) pNil)))) (pCons (pCB bSorted (pCons (pVar 12) pNil)) pNil))))) (sRet (pC (.bl false))) sNx)
    (sSq (sFor (pRng1 (pCons (pVar 5) pNil)) (gNm 3) (sSq (sFor (pRng2 (pCons (pC (.int 1)) (pCons (pC (.int 10)) pNil))) (gNm 15) (sIf (pTst (pOp2 pLt (pOp2 pAdd (pOp2 pIx (pVar 6) (pVar 3)) (pVar 15)) (pC (.int 10)))) (sSq (sSet 16 (pOp2 pAdd (pOp2 pAdd (pSlc (pVar 6) oNo (oSome (pVar 3))) (pLst (pCons (pOp2 pAdd (pOp2 pIx (pVar 6) (pVar 3)) (pVar 15)) pNil))) (pSlc (pVar 6) (oSome (pOp2 pAdd (pVar 3) (pC (.int 1)))) oNo)))
    (sSq (sIf (pTst (pOp2 pNe (pOp2 pEq (pCall P__law_sum (pCons (pVar 2) (pCons (pVar 4) (pCons (pVar 16) pNil)))) (pVar 7)) (pOp2 (pIn false) (pTup (pCons (pVar 3) (pCons (pVar 15) pNil))) (pVar 10)))) (sRet (pC (.bl false))) sNx)
    (sIf (pNot (pTru (pCall P__law_same (pCons (pCall P_judge_slip (pCons (pVar 2) (pCons (pVar 4) (pCons (pVar 6) (pCons (pVar 16) pNil))))) (pCons (pAndV (pOp2 pEq (pVar 7) (pC (.int 0))) (pOp2 (pIn false) (pTup (pCons (pVar 3) (pCons (pVar 15) pNil))) (pVar 10))) pNil))))) (sRet (pC (.bl false))) sNx))) sNx))
    (sSq (sIf (pTst (pOp2 pEq (pVar 7) (pC (.int 0)))) (sSq (sSet 17 (qLc (pRng1 (pCons (pC (.int 10)) pNil)) (gNm 9) (pTst (pOp2 pEq (pCall P__law_sum (pCons (pVar 2) (pCons (pVar 4) (pCons (pOp2 pAdd (pOp2 pAdd (pSlc (pVar 6) oNo (oSome (pVar 3))) (pLst (pCons (pVar 9) pNil))) (pSlc (pVar 6) (oSome (pOp2 pAdd (pVar 3) (pC (.int 1)))) oNo)) pNil)))) (pC (.int 0)))) (pVar 9) [9]))
    (sIf (pNot (pTru (pCall P__law_same (pCons (pCall P_lost_digit (pCons (pVar 2) (pCons (pVar 4) (pCons (pVar 6) (pCons (pVar 3) pNil))))) (pCons (pVar 17) pNil))))) (sRet (pC (.bl false))) sNx)) sNx)
    (sIf (pAnd (pTst (pOp2 pLt (pOp2 pAdd (pVar 3) (pC (.int 1))) (pVar 5))) (pTst (pOp2 pNe (pOp2 pIx (pVar 6) (pVar 3)) (pOp2 pIx (pVar 6) (pOp2 pAdd (pVar 3) (pC (.int 1))))))) (sSq (sSet 16 (pOp2 pAdd (pOp2 pAdd (pSlc (pVar 6) oNo (oSome (pVar 3))) (pLst (pCons (pOp2 pIx (pVar 6) (pOp2 pAdd (pVar 3) (pC (.int 1)))) (pCons (pOp2 pIx (pVar 6) (pVar 3)) pNil)))) (pSlc (pVar 6) (oSome (pOp2 pAdd (pVar 3) (pC (.int 2)))) oNo)))
    (sIf (pTst (pOp2 pNe (pOp2 pEq (pCall P__law_sum (pCons (pVar 2) (pCons (pVar 4) (pCons (pVar 16) pNil)))) (pVar 7)) (pOp2 (pIn false) (pTup (pCons (pVar 3) (pCons (pCB bAbs (pCons (pOp2 pSub (pOp2 pIx (pVar 6) (pVar 3)) (pOp2 pIx (pVar 6) (pOp2 pAdd (pVar 3) (pC (.int 1))))) pNil)) pNil))) (pVar 11)))) (sRet (pC (.bl false))) sNx)) sNx))))
    (sSq (sSet 18 (pOp2 pAdd (pC (.int 1)) (pCallI 1 P__law_draw (pCons (pC (.int 3)) pNil))))
    (sSq (sSet 19 (qLc (pRng2 (pCons (pC (.int 2)) (pCons (pC (.int 60)) pNil))) (gNm 20) (pAnd (pTst (pOp2 pEq (pCall P__law_digits (pCons (pVar 2) (pCons (pVar 20) (pCons (pVar 18) pNil)))) (pLst pNil))) (pTst (pOp2 pEq (pCall P__law_swaps (pCons (pVar 2) (pCons (pVar 20) (pCons (pVar 18) pNil)))) (pLst pNil)))) (pVar 20) [20]))
    (sSq (sSet 21 (pCall P_least_modulus (pCons (pVar 2) (pCons (pVar 18) pNil))))
    (sSq (sIf (pTst (pOp2 pNe (pVar 19) (pLst pNil))) (sRet (pCall P__law_same (pCons (pVar 21) (pCons (pOp2 pIx (pVar 19) (pC (.int 0))) pNil)))) sNx)
    (sRet (pOrV (pOp2 (pIs false) (pVar 21) (pC .non)) (pOp2 pGt (pVar 21) (pC (.int 59)))))))))))))
def t10 : TSp := (sSq (sPar2 10 11 (pCall P__law_digits (pCons (pVar 2) (pCons (pVar 4) (pCons (pVar 5) pNil)))) (pCall P__law_swaps (pCons (pVar 2) (pCons (pVar 4) (pCons (pVar 5) pNil)))))
    (sSq (sIf (pNot (pTru (pCall P__law_same (pCons (pLst (pCons (pCall P_unnoticed_digits (pCons (pVar 2) (pCons (pVar 4) (pCons (pVar 5) pNil)))) (pCons (pCall P_unnoticed_swaps (pCons (pVar 2) (pCons (pVar 4) (pCons (pVar 5) pNil)))) pNil))) (pCons (pLst (pCons (pVar 10) (pCons (pVar 11) pNil))) pNil))))) (sRet (pC (.bl false))) sNx)
    (sSq (sIf (pNot (pTru (pCall P__law_same (pCons (pLst (pCons (pCall P_notices_digits (pCons (pVar 2) (pCons (pVar 4) (pCons (pVar 5) pNil)))) (pCons (pCall P_notices_swaps (pCons (pVar 2) (pCons (pVar 4) (pCons (pVar 5) pNil)))) pNil))) (pCons (pLst (pCons (pOp2 pEq (pVar 10) (pLst pNil)) (pCons (pOp2 pEq (pVar 11) (pLst pNil)) pNil))) pNil))))) (sRet (pC (.bl false))) sNx)
    (sSq (sSet 12 (pLst pNil))
    (sSq (sFor (pRng1 (pCons (pVar 5) pNil)) (gNm 3) (sSq (sSet 13 (qLc (pRng1 (pCons (pC (.int 10)) pNil)) (gNm 9) (pTst (pOp2 pNe (pVar 9) (pOp2 pIx (pVar 6) (pVar 3)))) (pOp2 pAdd (pOp2 pAdd (pSlc (pVar 6) oNo (oSome (pVar 3))) (pLst (pCons (pVar 9) pNil))) (pSlc (pVar 6) (oSome (pOp2 pAdd (pVar 3) (pC (.int 1)))) oNo)) [9]))
    (sSet 12 (pOp2 pAdd (pVar 12) (qLc (pIt (pVar 13)) (gNm 14) (pTst (pOp2 pEq (pCall P__law_sum (pCons (pVar 2) (pCons (pVar 4) (pCons (pVar 14) pNil)))) (pC (.int 0)))) (pVar 14) [14])))))
    (sSq (sIf (pNot (pTru (pCall P__law_same (pCons (pCall P_mended (pCons (pVar 2) (pCons (pVar 4) (pCons (pVar 6) pNil)))) (pCons (pCB bSorted (pCons (pVar 12) pNil)) pNil))))) (sRet (pC (.bl false))) sNx)
    (sSq (sFor (pRng1 (pCons (pVar 5) pNil)) (gNm 3) (sSq (sFor (pRng2 (pCons (pC (.int 1)) (pCons (pC (.int 10)) pNil))) (gNm 15) (sIf (pTst (pOp2 pLt (pOp2 pAdd (pOp2 pIx (pVar 6) (pVar 3)) (pVar 15)) (pC (.int 10)))) (sSq (sSet 16 (pOp2 pAdd (pOp2 pAdd (pSlc (pVar 6) oNo (oSome (pVar 3))) (pLst (pCons (pOp2 pAdd (pOp2 pIx (pVar 6) (pVar 3)) (pVar 15)) pNil))) (pSlc (pVar 6) (oSome (pOp2 pAdd (pVar 3) (pC (.int 1)))) oNo)))
    (sSq (sIf (pTst (pOp2 pNe (pOp2 pEq (pCall P__law_sum (pCons (pVar 2) (pCons (pVar 4) (pCons (pVar 16) pNil)))) (pVar 7)) (pOp2 (pIn false) (pTup (pCons (pVar 3) (pCons (pVar 15) pNil))) (pVar 10)))) (sRet (pC (.bl false))) sNx)
    (sIf (pNot (pTru (pCall P__law_same (pCons (pCall P_judge_slip (pCons (pVar 2) (pCons (pVar 4) (pCons (pVar 6) (pCons (pVar 16) pNil))))) (pCons (pAndV (pOp2 pEq (pVar 7) (pC (.int 0))) (pOp2 (pIn false) (pTup (pCons (pVar 3) (pCons (pVar 15) pNil))) (pVar 10))) pNil))))) (sRet (pC (.bl false))) sNx))) sNx))
    (sSq (sIf (pTst (pOp2 pEq (pVar 7) (pC (.int 0)))) (sSq (sSet 17 (qLc (pRng1 (pCons (pC (.int 10)) pNil)) (gNm 9) (pTst (pOp2 pEq (pCall P__law_sum (pCons (pVar 2) (pCons (pVar 4) (pCons (pOp2 pAdd (pOp2 pAdd (pSlc (pVar 6) oNo (oSome (pVar 3))) (pLst (pCons (pVar 9) pNil))) (pSlc (pVar 6) (oSome (pOp2 pAdd (pVar 3) (pC (.int 1)))) oNo)) pNil)))) (pC (.int 0)))) (pVar 9) [9]))
    (sIf (pNot (pTru (pCall P__law_same (pCons (pCall P_lost_digit (pCons (pVar 2) (pCons (pVar 4) (pCons (pVar 6) (pCons (pVar 3) pNil))))) (pCons (pVar 17) pNil))))) (sRet (pC (.bl false))) sNx)) sNx)
    (sIf (pAnd (pTst (pOp2 pLt (pOp2 pAdd (pVar 3) (pC (.int 1))) (pVar 5))) (pTst (pOp2 pNe (pOp2 pIx (pVar 6) (pVar 3)) (pOp2 pIx (pVar 6) (pOp2 pAdd (pVar 3) (pC (.int 1))))))) (sSq (sSet 16 (pOp2 pAdd (pOp2 pAdd (pSlc (pVar 6) oNo (oSome (pVar 3))) (pLst (pCons (pOp2 pIx (pVar 6) (pOp2 pAdd (pVar 3) (pC (.int 1)))) (pCons (pOp2 pIx (pVar 6) (pVar 3)) pNil)))) (pSlc (pVar 6) (oSome (pOp2 pAdd (pVar 3) (pC (.int 2)))) oNo)))
    (sIf (pTst (pOp2 pNe (pOp2 pEq (pCall P__law_sum (pCons (pVar 2) (pCons (pVar 4) (pCons (pVar 16) pNil)))) (pVar 7)) (pOp2 (pIn false) (pTup (pCons (pVar 3) (pCons (pCB bAbs (pCons (pOp2 pSub (pOp2 pIx (pVar 6) (pVar 3)) (pOp2 pIx (pVar 6) (pOp2 pAdd (pVar 3) (pC (.int 1))))) pNil)) pNil))) (pVar 11)))) (sRet (pC (.bl false))) sNx)) sNx))))
    (sSq (sSet 18 (pOp2 pAdd (pC (.int 1)) (pCallI 1 P__law_draw (pCons (pC (.int 3)) pNil))))
    (sSq (sSet 19 (qLc (pRng2 (pCons (pC (.int 2)) (pCons (pC (.int 60)) pNil))) (gNm 20) (pAnd (pTst (pOp2 pEq (pCall P__law_digits (pCons (pVar 2) (pCons (pVar 20) (pCons (pVar 18) pNil)))) (pLst pNil))) (pTst (pOp2 pEq (pCall P__law_swaps (pCons (pVar 2) (pCons (pVar 20) (pCons (pVar 18) pNil)))) (pLst pNil)))) (pVar 20) [20]))
    (sSq (sSet 21 (pCall P_least_modulus (pCons (pVar 2) (pCons (pVar 18) pNil))))
    (sSq (sIf (pTst (pOp2 pNe (pVar 19) (pLst pNil))) (sRet (pCall P__law_same (pCons (pVar 21) (pCons (pOp2 pIx (pVar 19) (pC (.int 0))) pNil)))) sNx)
    (sRet (pOrV (pOp2 (pIs false) (pVar 21) (pC .non)) (pOp2 pGt (pVar 21) (pC (.int 59))))))))))))))))
def t8 : TSp := (sSq (sSet 8 (qLc (pRng1 (pCons (pCB bMin (pCons (pC (.int 10)) (pCons (pVar 4) pNil))) pNil)) (gNm 9) (pTst (pOp2 pEq (pCall P__law_sum (pCons (pVar 2) (pCons (pVar 4) (pCons (pOp2 pAdd (pVar 6) (pLst (pCons (pVar 9) pNil))) pNil)))) (pC (.int 0)))) (pVar 9) [9]))
    (sSq (sIf (pNot (pTru (pCall P__law_same (pCons (pCall P_with_check (pCons (pVar 2) (pCons (pVar 4) (pCons (pVar 6) pNil)))) (pCons (pIf (pTst (pOp2 pNe (pVar 8) (pLst pNil))) (pOp2 pAdd (pVar 6) (pSlc (pVar 8) oNo (oSome (pC (.int 1))))) (pC .non)) pNil))))) (sRet (pC (.bl false))) sNx)
    (sSq (sPar2 10 11 (pCall P__law_digits (pCons (pVar 2) (pCons (pVar 4) (pCons (pVar 5) pNil)))) (pCall P__law_swaps (pCons (pVar 2) (pCons (pVar 4) (pCons (pVar 5) pNil)))))
    (sSq (sIf (pNot (pTru (pCall P__law_same (pCons (pLst (pCons (pCall P_unnoticed_digits (pCons (pVar 2) (pCons (pVar 4) (pCons (pVar 5) pNil)))) (pCons (pCall P_unnoticed_swaps (pCons (pVar 2) (pCons (pVar 4) (pCons (pVar 5) pNil)))) pNil))) (pCons (pLst (pCons (pVar 10) (pCons (pVar 11) pNil))) pNil))))) (sRet (pC (.bl false))) sNx)
    (sSq (sIf (pNot (pTru (pCall P__law_same (pCons (pLst (pCons (pCall P_notices_digits (pCons (pVar 2) (pCons (pVar 4) (pCons (pVar 5) pNil)))) (pCons (pCall P_notices_swaps (pCons (pVar 2) (pCons (pVar 4) (pCons (pVar 5) pNil)))) pNil))) (pCons (pLst (pCons (pOp2 pEq (pVar 10) (pLst pNil)) (pCons (pOp2 pEq (pVar 11) (pLst pNil)) pNil))) pNil))))) (sRet (pC (.bl false))) sNx)
    (sSq (sSet 12 (pLst pNil))
    (sSq (sFor (pRng1 (pCons (pVar 5) pNil)) (gNm 3) (sSq (sSet 13 (qLc (pRng1 (pCons (pC (.int 10)) pNil)) (gNm 9) (pTst (pOp2 pNe (pVar 9) (pOp2 pIx (pVar 6) (pVar 3)))) (pOp2 pAdd (pOp2 pAdd (pSlc (pVar 6) oNo (oSome (pVar 3))) (pLst (pCons (pVar 9) pNil))) (pSlc (pVar 6) (oSome (pOp2 pAdd (pVar 3) (pC (.int 1)))) oNo)) [9]))
    (sSet 12 (pOp2 pAdd (pVar 12) (qLc (pIt (pVar 13)) (gNm 14) (pTst (pOp2 pEq (pCall P__law_sum (pCons (pVar 2) (pCons (pVar 4) (pCons (pVar 14) pNil)))) (pC (.int 0)))) (pVar 14) [14])))))
    (sSq (sIf (pNot (pTru (pCall P__law_same (pCons (pCall P_mended (pCons (pVar 2) (pCons (pVar 4) (pCons (pVar 6) pNil)))) (pCons (pCB bSorted (pCons (pVar 12) pNil)) pNil))))) (sRet (pC (.bl false))) sNx)
    (sSq (sFor (pRng1 (pCons (pVar 5) pNil)) (gNm 3) (sSq (sFor (pRng2 (pCons (pC (.int 1)) (pCons (pC (.int 10)) pNil))) (gNm 15) (sIf (pTst (pOp2 pLt (pOp2 pAdd (pOp2 pIx (pVar 6) (pVar 3)) (pVar 15)) (pC (.int 10)))) (sSq (sSet 16 (pOp2 pAdd (pOp2 pAdd (pSlc (pVar 6) oNo (oSome (pVar 3))) (pLst (pCons (pOp2 pAdd (pOp2 pIx (pVar 6) (pVar 3)) (pVar 15)) pNil))) (pSlc (pVar 6) (oSome (pOp2 pAdd (pVar 3) (pC (.int 1)))) oNo)))
    (sSq (sIf (pTst (pOp2 pNe (pOp2 pEq (pCall P__law_sum (pCons (pVar 2) (pCons (pVar 4) (pCons (pVar 16) pNil)))) (pVar 7)) (pOp2 (pIn false) (pTup (pCons (pVar 3) (pCons (pVar 15) pNil))) (pVar 10)))) (sRet (pC (.bl false))) sNx)
    (sIf (pNot (pTru (pCall P__law_same (pCons (pCall P_judge_slip (pCons (pVar 2) (pCons (pVar 4) (pCons (pVar 6) (pCons (pVar 16) pNil))))) (pCons (pAndV (pOp2 pEq (pVar 7) (pC (.int 0))) (pOp2 (pIn false) (pTup (pCons (pVar 3) (pCons (pVar 15) pNil))) (pVar 10))) pNil))))) (sRet (pC (.bl false))) sNx))) sNx))
    (sSq (sIf (pTst (pOp2 pEq (pVar 7) (pC (.int 0)))) (sSq (sSet 17 (qLc (pRng1 (pCons (pC (.int 10)) pNil)) (gNm 9) (pTst (pOp2 pEq (pCall P__law_sum (pCons (pVar 2) (pCons (pVar 4) (pCons (pOp2 pAdd (pOp2 pAdd (pSlc (pVar 6) oNo (oSome (pVar 3))) (pLst (pCons (pVar 9) pNil))) (pSlc (pVar 6) (oSome (pOp2 pAdd (pVar 3) (pC (.int 1)))) oNo)) pNil)))) (pC (.int 0)))) (pVar 9) [9]))
    (sIf (pNot (pTru (pCall P__law_same (pCons (pCall P_lost_digit (pCons (pVar 2) (pCons (pVar 4) (pCons (pVar 6) (pCons (pVar 3) pNil))))) (pCons (pVar 17) pNil))))) (sRet (pC (.bl false))) sNx)) sNx)
    (sIf (pAnd (pTst (pOp2 pLt (pOp2 pAdd (pVar 3) (pC (.int 1))) (pVar 5))) (pTst (pOp2 pNe (pOp2 pIx (pVar 6) (pVar 3)) (pOp2 pIx (pVar 6) (pOp2 pAdd (pVar 3) (pC (.int 1))))))) (sSq (sSet 16 (pOp2 pAdd (pOp2 pAdd (pSlc (pVar 6) oNo (oSome (pVar 3))) (pLst (pCons (pOp2 pIx (pVar 6) (pOp2 pAdd (pVar 3) (pC (.int 1)))) (pCons (pOp2 pIx (pVar 6) (pVar 3)) pNil)))) (pSlc (pVar 6) (oSome (pOp2 pAdd (pVar 3) (pC (.int 2)))) oNo)))
    (sIf (pTst (pOp2 pNe (pOp2 pEq (pCall P__law_sum (pCons (pVar 2) (pCons (pVar 4) (pCons (pVar 16) pNil)))) (pVar 7)) (pOp2 (pIn false) (pTup (pCons (pVar 3) (pCons (pCB bAbs (pCons (pOp2 pSub (pOp2 pIx (pVar 6) (pVar 3)) (pOp2 pIx (pVar 6) (pOp2 pAdd (pVar 3) (pC (.int 1))))) pNil)) pNil))) (pVar 11)))) (sRet (pC (.bl false))) sNx)) sNx))))
    (sSq (sSet 18 (pOp2 pAdd (pC (.int 1)) (pCallI 1 P__law_draw (pCons (pC (.int 3)) pNil))))
    (sSq (sSet 19 (qLc (pRng2 (pCons (pC (.int 2)) (pCons (pC (.int 60)) pNil))) (gNm 20) (pAnd (pTst (pOp2 pEq (pCall P__law_digits (pCons (pVar 2) (pCons (pVar 20) (pCons (pVar 18) pNil)))) (pLst pNil))) (pTst (pOp2 pEq (pCall P__law_swaps (pCons (pVar 2) (pCons (pVar 20) (pCons (pVar 18) pNil)))) (pLst pNil)))) (pVar 20) [20]))
    (sSq (sSet 21 (pCall P_least_modulus (pCons (pVar 2) (pCons (pVar 18) pNil))))
    (sSq (sIf (pTst (pOp2 pNe (pVar 19) (pLst pNil))) (sRet (pCall P__law_same (pCons (pVar 21) (pCons (pOp2 pIx (pVar 19) (pC (.int 0))) pNil)))) sNx)
    (sRet (pOrV (pOp2 (pIs false) (pVar 21) (pC .non)) (pOp2 pGt (pVar 21) (pC (.int 59))))))))))))))))))
def t7 : TSp := (sSq (sSet 7 (pCall P__law_sum (pCons (pVar 2) (pCons (pVar 4) (pCons (pVar 6) pNil)))))
    (sSq (sIf (pNot (pTru (pCall P__law_same (pCons (pLst (pCons (pCall P_check_sum (pCons (pVar 2) (pCons (pVar 4) (pCons (pVar 6) pNil)))) (pCons (pCall P_is_checked (pCons (pVar 2) (pCons (pVar 4) (pCons (pVar 6) pNil)))) pNil))) (pCons (pLst (pCons (pVar 7) (pCons (pOp2 pEq (pVar 7) (pC (.int 0))) pNil))) pNil))))) (sRet (pC (.bl false))) sNx)
    (sSq (sSet 8 (qLc (pRng1 (pCons (pCB bMin (pCons (pC (.int 10)) (pCons (pVar 4) pNil))) pNil)) (gNm 9) (pTst (pOp2 pEq (pCall P__law_sum (pCons (pVar 2) (pCons (pVar 4) (pCons (pOp2 pAdd (pVar 6) (pLst (pCons (pVar 9) pNil))) pNil)))) (pC (.int 0)))) (pVar 9) [9]))
    (sSq (sIf (pNot (pTru (pCall P__law_same (pCons (pCall P_with_check (pCons (pVar 2) (pCons (pVar 4) (pCons (pVar 6) pNil)))) (pCons (pIf (pTst (pOp2 pNe (pVar 8) (pLst pNil))) (pOp2 pAdd (pVar 6) (pSlc (pVar 8) oNo (oSome (pC (.int 1))))) (pC .non)) pNil))))) (sRet (pC (.bl false))) sNx)
    (sSq (sPar2 10 11 (pCall P__law_digits (pCons (pVar 2) (pCons (pVar 4) (pCons (pVar 5) pNil)))) (pCall P__law_swaps (pCons (pVar 2) (pCons (pVar 4) (pCons (pVar 5) pNil)))))
    (sSq (sIf (pNot (pTru (pCall P__law_same (pCons (pLst (pCons (pCall P_unnoticed_digits (pCons (pVar 2) (pCons (pVar 4) (pCons (pVar 5) pNil)))) (pCons (pCall P_unnoticed_swaps (pCons (pVar 2) (pCons (pVar 4) (pCons (pVar 5) pNil)))) pNil))) (pCons (pLst (pCons (pVar 10) (pCons (pVar 11) pNil))) pNil))))) (sRet (pC (.bl false))) sNx)
    (sSq (sIf (pNot (pTru (pCall P__law_same (pCons (pLst (pCons (pCall P_notices_digits (pCons (pVar 2) (pCons (pVar 4) (pCons (pVar 5) pNil)))) (pCons (pCall P_notices_swaps (pCons (pVar 2) (pCons (pVar 4) (pCons (pVar 5) pNil)))) pNil))) (pCons (pLst (pCons (pOp2 pEq (pVar 10) (pLst pNil)) (pCons (pOp2 pEq (pVar 11) (pLst pNil)) pNil))) pNil))))) (sRet (pC (.bl false))) sNx)
    (sSq (sSet 12 (pLst pNil))
    (sSq (sFor (pRng1 (pCons (pVar 5) pNil)) (gNm 3) (sSq (sSet 13 (qLc (pRng1 (pCons (pC (.int 10)) pNil)) (gNm 9) (pTst (pOp2 pNe (pVar 9) (pOp2 pIx (pVar 6) (pVar 3)))) (pOp2 pAdd (pOp2 pAdd (pSlc (pVar 6) oNo (oSome (pVar 3))) (pLst (pCons (pVar 9) pNil))) (pSlc (pVar 6) (oSome (pOp2 pAdd (pVar 3) (pC (.int 1)))) oNo)) [9]))
    (sSet 12 (pOp2 pAdd (pVar 12) (qLc (pIt (pVar 13)) (gNm 14) (pTst (pOp2 pEq (pCall P__law_sum (pCons (pVar 2) (pCons (pVar 4) (pCons (pVar 14) pNil)))) (pC (.int 0)))) (pVar 14) [14])))))
    (sSq (sIf (pNot (pTru (pCall P__law_same (pCons (pCall P_mended (pCons (pVar 2) (pCons (pVar 4) (pCons (pVar 6) pNil)))) (pCons (pCB bSorted (pCons (pVar 12) pNil)) pNil))))) (sRet (pC (.bl false))) sNx)
    (sSq (sFor (pRng1 (pCons (pVar 5) pNil)) (gNm 3) (sSq (sFor (pRng2 (pCons (pC (.int 1)) (pCons (pC (.int 10)) pNil))) (gNm 15) (sIf (pTst (pOp2 pLt (pOp2 pAdd (pOp2 pIx (pVar 6) (pVar 3)) (pVar 15)) (pC (.int 10)))) (sSq (sSet 16 (pOp2 pAdd (pOp2 pAdd (pSlc (pVar 6) oNo (oSome (pVar 3))) (pLst (pCons (pOp2 pAdd (pOp2 pIx (pVar 6) (pVar 3)) (pVar 15)) pNil))) (pSlc (pVar 6) (oSome (pOp2 pAdd (pVar 3) (pC (.int 1)))) oNo)))
    (sSq (sIf (pTst (pOp2 pNe (pOp2 pEq (pCall P__law_sum (pCons (pVar 2) (pCons (pVar 4) (pCons (pVar 16) pNil)))) (pVar 7)) (pOp2 (pIn false) (pTup (pCons (pVar 3) (pCons (pVar 15) pNil))) (pVar 10)))) (sRet (pC (.bl false))) sNx)
    (sIf (pNot (pTru (pCall P__law_same (pCons (pCall P_judge_slip (pCons (pVar 2) (pCons (pVar 4) (pCons (pVar 6) (pCons (pVar 16) pNil))))) (pCons (pAndV (pOp2 pEq (pVar 7) (pC (.int 0))) (pOp2 (pIn false) (pTup (pCons (pVar 3) (pCons (pVar 15) pNil))) (pVar 10))) pNil))))) (sRet (pC (.bl false))) sNx))) sNx))
    (sSq (sIf (pTst (pOp2 pEq (pVar 7) (pC (.int 0)))) (sSq (sSet 17 (qLc (pRng1 (pCons (pC (.int 10)) pNil)) (gNm 9) (pTst (pOp2 pEq (pCall P__law_sum (pCons (pVar 2) (pCons (pVar 4) (pCons (pOp2 pAdd (pOp2 pAdd (pSlc (pVar 6) oNo (oSome (pVar 3))) (pLst (pCons (pVar 9) pNil))) (pSlc (pVar 6) (oSome (pOp2 pAdd (pVar 3) (pC (.int 1)))) oNo)) pNil)))) (pC (.int 0)))) (pVar 9) [9]))
    (sIf (pNot (pTru (pCall P__law_same (pCons (pCall P_lost_digit (pCons (pVar 2) (pCons (pVar 4) (pCons (pVar 6) (pCons (pVar 3) pNil))))) (pCons (pVar 17) pNil))))) (sRet (pC (.bl false))) sNx)) sNx)
    (sIf (pAnd (pTst (pOp2 pLt (pOp2 pAdd (pVar 3) (pC (.int 1))) (pVar 5))) (pTst (pOp2 pNe (pOp2 pIx (pVar 6) (pVar 3)) (pOp2 pIx (pVar 6) (pOp2 pAdd (pVar 3) (pC (.int 1))))))) (sSq (sSet 16 (pOp2 pAdd (pOp2 pAdd (pSlc (pVar 6) oNo (oSome (pVar 3))) (pLst (pCons (pOp2 pIx (pVar 6) (pOp2 pAdd (pVar 3) (pC (.int 1)))) (pCons (pOp2 pIx (pVar 6) (pVar 3)) pNil)))) (pSlc (pVar 6) (oSome (pOp2 pAdd (pVar 3) (pC (.int 2)))) oNo)))
    (sIf (pTst (pOp2 pNe (pOp2 pEq (pCall P__law_sum (pCons (pVar 2) (pCons (pVar 4) (pCons (pVar 16) pNil)))) (pVar 7)) (pOp2 (pIn false) (pTup (pCons (pVar 3) (pCons (pCB bAbs (pCons (pOp2 pSub (pOp2 pIx (pVar 6) (pVar 3)) (pOp2 pIx (pVar 6) (pOp2 pAdd (pVar 3) (pC (.int 1))))) pNil)) pNil))) (pVar 11)))) (sRet (pC (.bl false))) sNx)) sNx))))
    (sSq (sSet 18 (pOp2 pAdd (pC (.int 1)) (pCallI 1 P__law_draw (pCons (pC (.int 3)) pNil))))
    (sSq (sSet 19 (qLc (pRng2 (pCons (pC (.int 2)) (pCons (pC (.int 60)) pNil))) (gNm 20) (pAnd (pTst (pOp2 pEq (pCall P__law_digits (pCons (pVar 2) (pCons (pVar 20) (pCons (pVar 18) pNil)))) (pLst pNil))) (pTst (pOp2 pEq (pCall P__law_swaps (pCons (pVar 2) (pCons (pVar 20) (pCons (pVar 18) pNil)))) (pLst pNil)))) (pVar 20) [20]))
    (sSq (sSet 21 (pCall P_least_modulus (pCons (pVar 2) (pCons (pVar 18) pNil))))
    (sSq (sIf (pTst (pOp2 pNe (pVar 19) (pLst pNil))) (sRet (pCall P__law_same (pCons (pVar 21) (pCons (pOp2 pIx (pVar 19) (pC (.int 0))) pNil)))) sNx)
    (sRet (pOrV (pOp2 (pIs false) (pVar 21) (pC .non)) (pOp2 pGt (pVar 21) (pC (.int 59))))))))))))))))))))
def t6 : TSp := (sSq (sSet 6 (qLc (pRng1 (pCons (pVar 5) pNil)) (gNm 3) tYs (pCallI 1 P__law_draw (pCons (pC (.int 10)) pNil)) [3]))
    (sSq (sEx (pCallI 1 P__law_next pNil))
    (sSq (sSet 7 (pCall P__law_sum (pCons (pVar 2) (pCons (pVar 4) (pCons (pVar 6) pNil)))))
    (sSq (sIf (pNot (pTru (pCall P__law_same (pCons (pLst (pCons (pCall P_check_sum (pCons (pVar 2) (pCons (pVar 4) (pCons (pVar 6) pNil)))) (pCons (pCall P_is_checked (pCons (pVar 2) (pCons (pVar 4) (pCons (pVar 6) pNil)))) pNil))) (pCons (pLst (pCons (pVar 7) (pCons (pOp2 pEq (pVar 7) (pC (.int 0))) pNil))) pNil))))) (sRet (pC (.bl false))) sNx)
    (sSq (sSet 8 (qLc (pRng1 (pCons (pCB bMin (pCons (pC (.int 10)) (pCons (pVar 4) pNil))) pNil)) (gNm 9) (pTst (pOp2 pEq (pCall P__law_sum (pCons (pVar 2) (pCons (pVar 4) (pCons (pOp2 pAdd (pVar 6) (pLst (pCons (pVar 9) pNil))) pNil)))) (pC (.int 0)))) (pVar 9) [9]))
    (sSq (sIf (pNot (pTru (pCall P__law_same (pCons (pCall P_with_check (pCons (pVar 2) (pCons (pVar 4) (pCons (pVar 6) pNil)))) (pCons (pIf (pTst (pOp2 pNe (pVar 8) (pLst pNil))) (pOp2 pAdd (pVar 6) (pSlc (pVar 8) oNo (oSome (pC (.int 1))))) (pC .non)) pNil))))) (sRet (pC (.bl false))) sNx)
    (sSq (sPar2 10 11 (pCall P__law_digits (pCons (pVar 2) (pCons (pVar 4) (pCons (pVar 5) pNil)))) (pCall P__law_swaps (pCons (pVar 2) (pCons (pVar 4) (pCons (pVar 5) pNil)))))
    (sSq (sIf (pNot (pTru (pCall P__law_same (pCons (pLst (pCons (pCall P_unnoticed_digits (pCons (pVar 2) (pCons (pVar 4) (pCons (pVar 5) pNil)))) (pCons (pCall P_unnoticed_swaps (pCons (pVar 2) (pCons (pVar 4) (pCons (pVar 5) pNil)))) pNil))) (pCons (pLst (pCons (pVar 10) (pCons (pVar 11) pNil))) pNil))))) (sRet (pC (.bl false))) sNx)
    (sSq (sIf (pNot (pTru (pCall P__law_same (pCons (pLst (pCons (pCall P_notices_digits (pCons (pVar 2) (pCons (pVar 4) (pCons (pVar 5) pNil)))) (pCons (pCall P_notices_swaps (pCons (pVar 2) (pCons (pVar 4) (pCons (pVar 5) pNil)))) pNil))) (pCons (pLst (pCons (pOp2 pEq (pVar 10) (pLst pNil)) (pCons (pOp2 pEq (pVar 11) (pLst pNil)) pNil))) pNil))))) (sRet (pC (.bl false))) sNx)
    (sSq (sSet 12 (pLst pNil))
    (sSq (sFor (pRng1 (pCons (pVar 5) pNil)) (gNm 3) (sSq (sSet 13 (qLc (pRng1 (pCons (pC (.int 10)) pNil)) (gNm 9) (pTst (pOp2 pNe (pVar 9) (pOp2 pIx (pVar 6) (pVar 3)))) (pOp2 pAdd (pOp2 pAdd (pSlc (pVar 6) oNo (oSome (pVar 3))) (pLst (pCons (pVar 9) pNil))) (pSlc (pVar 6) (oSome (pOp2 pAdd (pVar 3) (pC (.int 1)))) oNo)) [9]))
    (sSet 12 (pOp2 pAdd (pVar 12) (qLc (pIt (pVar 13)) (gNm 14) (pTst (pOp2 pEq (pCall P__law_sum (pCons (pVar 2) (pCons (pVar 4) (pCons (pVar 14) pNil)))) (pC (.int 0)))) (pVar 14) [14])))))
    (sSq (sIf (pNot (pTru (pCall P__law_same (pCons (pCall P_mended (pCons (pVar 2) (pCons (pVar 4) (pCons (pVar 6) pNil)))) (pCons (pCB bSorted (pCons (pVar 12) pNil)) pNil))))) (sRet (pC (.bl false))) sNx)
    (sSq (sFor (pRng1 (pCons (pVar 5) pNil)) (gNm 3) (sSq (sFor (pRng2 (pCons (pC (.int 1)) (pCons (pC (.int 10)) pNil))) (gNm 15) (sIf (pTst (pOp2 pLt (pOp2 pAdd (pOp2 pIx (pVar 6) (pVar 3)) (pVar 15)) (pC (.int 10)))) (sSq (sSet 16 (pOp2 pAdd (pOp2 pAdd (pSlc (pVar 6) oNo (oSome (pVar 3))) (pLst (pCons (pOp2 pAdd (pOp2 pIx (pVar 6) (pVar 3)) (pVar 15)) pNil))) (pSlc (pVar 6) (oSome (pOp2 pAdd (pVar 3) (pC (.int 1)))) oNo)))
    (sSq (sIf (pTst (pOp2 pNe (pOp2 pEq (pCall P__law_sum (pCons (pVar 2) (pCons (pVar 4) (pCons (pVar 16) pNil)))) (pVar 7)) (pOp2 (pIn false) (pTup (pCons (pVar 3) (pCons (pVar 15) pNil))) (pVar 10)))) (sRet (pC (.bl false))) sNx)
    (sIf (pNot (pTru (pCall P__law_same (pCons (pCall P_judge_slip (pCons (pVar 2) (pCons (pVar 4) (pCons (pVar 6) (pCons (pVar 16) pNil))))) (pCons (pAndV (pOp2 pEq (pVar 7) (pC (.int 0))) (pOp2 (pIn false) (pTup (pCons (pVar 3) (pCons (pVar 15) pNil))) (pVar 10))) pNil))))) (sRet (pC (.bl false))) sNx))) sNx))
    (sSq (sIf (pTst (pOp2 pEq (pVar 7) (pC (.int 0)))) (sSq (sSet 17 (qLc (pRng1 (pCons (pC (.int 10)) pNil)) (gNm 9) (pTst (pOp2 pEq (pCall P__law_sum (pCons (pVar 2) (pCons (pVar 4) (pCons (pOp2 pAdd (pOp2 pAdd (pSlc (pVar 6) oNo (oSome (pVar 3))) (pLst (pCons (pVar 9) pNil))) (pSlc (pVar 6) (oSome (pOp2 pAdd (pVar 3) (pC (.int 1)))) oNo)) pNil)))) (pC (.int 0)))) (pVar 9) [9]))
    (sIf (pNot (pTru (pCall P__law_same (pCons (pCall P_lost_digit (pCons (pVar 2) (pCons (pVar 4) (pCons (pVar 6) (pCons (pVar 3) pNil))))) (pCons (pVar 17) pNil))))) (sRet (pC (.bl false))) sNx)) sNx)
    (sIf (pAnd (pTst (pOp2 pLt (pOp2 pAdd (pVar 3) (pC (.int 1))) (pVar 5))) (pTst (pOp2 pNe (pOp2 pIx (pVar 6) (pVar 3)) (pOp2 pIx (pVar 6) (pOp2 pAdd (pVar 3) (pC (.int 1))))))) (sSq (sSet 16 (pOp2 pAdd (pOp2 pAdd (pSlc (pVar 6) oNo (oSome (pVar 3))) (pLst (pCons (pOp2 pIx (pVar 6) (pOp2 pAdd (pVar 3) (pC (.int 1)))) (pCons (pOp2 pIx (pVar 6) (pVar 3)) pNil)))) (pSlc (pVar 6) (oSome (pOp2 pAdd (pVar 3) (pC (.int 2)))) oNo)))
    (sIf (pTst (pOp2 pNe (pOp2 pEq (pCall P__law_sum (pCons (pVar 2) (pCons (pVar 4) (pCons (pVar 16) pNil)))) (pVar 7)) (pOp2 (pIn false) (pTup (pCons (pVar 3) (pCons (pCB bAbs (pCons (pOp2 pSub (pOp2 pIx (pVar 6) (pVar 3)) (pOp2 pIx (pVar 6) (pOp2 pAdd (pVar 3) (pC (.int 1))))) pNil)) pNil))) (pVar 11)))) (sRet (pC (.bl false))) sNx)) sNx))))
    (sSq (sSet 18 (pOp2 pAdd (pC (.int 1)) (pCallI 1 P__law_draw (pCons (pC (.int 3)) pNil))))
    (sSq (sSet 19 (qLc (pRng2 (pCons (pC (.int 2)) (pCons (pC (.int 60)) pNil))) (gNm 20) (pAnd (pTst (pOp2 pEq (pCall P__law_digits (pCons (pVar 2) (pCons (pVar 20) (pCons (pVar 18) pNil)))) (pLst pNil))) (pTst (pOp2 pEq (pCall P__law_swaps (pCons (pVar 2) (pCons (pVar 20) (pCons (pVar 18) pNil)))) (pLst pNil)))) (pVar 20) [20]))
    (sSq (sSet 21 (pCall P_least_modulus (pCons (pVar 2) (pCons (pVar 18) pNil))))
    (sSq (sIf (pTst (pOp2 pNe (pVar 19) (pLst pNil))) (sRet (pCall P__law_same (pCons (pVar 21) (pCons (pOp2 pIx (pVar 19) (pC (.int 0))) pNil)))) sNx)
    (sRet (pOrV (pOp2 (pIs false) (pVar 21) (pC .non)) (pOp2 pGt (pVar 21) (pC (.int 59))))))))))))))))))))))
theorem near_mem {w c : List Int} {m : Int} {n : Nat} (hn : n ≤ c.length) {x : List Int} (h : x ∈ nearL w m c n) : x.length = c.length := by
  unfold nearL at h
  obtain ⟨k, hk, hx⟩ := List.mem_flatMap.mp h
  unfold mrow at hx
  obtain ⟨d, _, rfl⟩ := List.mem_map.mp hx
  have := List.mem_range.mp hk
  exact sub_len (by omega) _
theorem ok_lst7 {m : Nat} {xs : List D} (h : xs.length < 16777216) (h2 : ∀ d ∈ xs, Ok m d) : Ok (m + 1) (.lst xs) := ⟨h, h2⟩
section
variable {K' : Rv → Prop} {ns w c : List Int} {n many m : Nat}
abbrev EN (K' : Rv → Prop) : PEnds := { nx := fun _ => K' (.sh .non), rt := fun r _ => K' r }
theorem t16_ok {s3 s8 s9 s12 s13 s14 s15 s16 s17 s18 s19 s20 s21 : Sl} (hn : n < 2 ^ 60) (hw : OkW w) (hm : 0 < m) (hc : c.length ≤ 100) (hcm : c.length = many) (hd : ∀ x ∈ c, 0 ≤ x ∧ x ≤ 9) (k : K' (.sh (.bl true))) :
    t16 (EN K') (evL ns w c n (m : Nat) (sm w c % (m : Nat)) many s3 s8 s9 s12 s13 s14 s15 s16 s17 s18 s19 s20 s21) := by
  refine And.intro (by omega) ?_
  refine Exists.intro (fun (i : Nat) (e : Ev) => ∃ s3 s15 s16 s17 : Sl, e = evL ns w c n (m : Nat) (sm w c % (m : Nat)) many s3 s8 s9 s12 s13 s14 s15 s16 s17 s18 s19 s20 s21) (And.intro ⟨_, _, _, _, rfl⟩ (And.intro ?_ ?_))
  · rintro i d e hd' ⟨t3, t15, t16, t17, rfl⟩
    obtain ⟨hi, rfl⟩ := rangeD_get hd'
    rw [Int.toNat_natCast] at hi
    rw [Int.zero_add]
    have hm' : (0 : Int) < ((m : Nat) : Int) := by omega
    exact gaps_ok (K0 := fun r _ => K' r) hw hm' hc (by omega) (by omega) fun u15 u16 => lost_ok (K0 := fun r _ => K' r) hw hm' hc (by omega) fun u17 => swp_ok (K0 := fun r _ => K' r) hw hm' hc (by omega) hcm hd fun v16 => ⟨_, _, _, _, rfl⟩
  · rintro e ⟨t3, t15, t16, t17, rfl⟩
    exact tail4_ok hn hw k
theorem t15_ok {s3 s8 s9 s13 s14 s15 s16 s17 s18 s19 s20 s21 : Sl} (hn : n < 2 ^ 60) (hw : OkW w) (hm : 0 < m) (hc : c.length ≤ 100) (hcm : c.length = many) (hd : ∀ x ∈ c, 0 ≤ x ∧ x ≤ 9) (k : K' (.sh (.bl true))) :
    t15 (EN K') (evL ns w c n (m : Nat) (sm w c % (m : Nat)) many s3 s8 s9 (.own (.lst ((nearL w (m : Nat) c many).map rowD))) s13 s14 s15 s16 s17 s18 s19 s20 s21) := by
  have ss := szL
  have hl := near_len w (m : Nat) c many
  refine ⟨w, (m : Nat), c, rfl, hw, by omega, by omega, And.intro (srt_rows (by omega)) ?_⟩
  rw [hcm]
  refine same_use ?_ (t16_ok hn hw hm hc hcm hd k)
  refine ok_lst7 ?_ ?_
  · unfold srtD
    rw [List.length_mergeSort, List.length_map]; omega
  · intro d hd'
    unfold srtD at hd'
    have := List.mem_mergeSort.mp hd'
    obtain ⟨x, hx, rfl⟩ := List.mem_map.mp this
    exact ok_ints 6 (by rw [near_mem (by omega) hx]; omega)
theorem t12_ok {s3 s8 s9 s12 s13 s14 s15 s16 s17 s18 s19 s20 s21 : Sl} (hn : n < 2 ^ 60) (hw : OkW w) (hm : 0 < m) (hc : c.length ≤ 100) (hcm : c.length = many) (hd : ∀ x ∈ c, 0 ≤ x ∧ x ≤ 9) (k : K' (.sh (.bl true))) :
    t12 (EN K') (evL ns w c n (m : Nat) (sm w c % (m : Nat)) many s3 s8 s9 s12 s13 s14 s15 s16 s17 s18 s19 s20 s21) := by
  refine And.intro (by decide) ?_
  exact near_ok (K0 := fun r _ => K' r) hw (by omega) hc hcm fun u3 u13 => t15_ok hn hw hm hc hcm hd k
theorem ok_pairs (n : Nat) {l : List (Nat × Nat)} (h : l.length < 16777216) : Ok (n + 2) (.lst (l.map pairD)) := ⟨by rw [List.length_map]; exact h, fun d hd => by
  obtain ⟨p, _, rfl⟩ := List.mem_map.mp hd
  exact ok_t2 (okInt n _) (okInt n _)⟩
theorem t10_ok {s3 s8 s9 s10 s11 s12 s13 s14 s15 s16 s17 s18 s19 s20 s21 : Sl} (hn : n < 2 ^ 60) (hw : OkW w) (hm : 0 < m) (hm2 : m < 2 ^ 30) (hc : c.length ≤ 100) (hcm : c.length = many) (hd : ∀ x ∈ c, 0 ≤ x ∧ x ≤ 9) (k : K' (.sh (.bl true))) :
    t10 (EN K') [.sh (.lck (ns.map D.int)), .own (.pool n), .sh (.lst (w.map D.int)), s3, .sh (.int (m : Nat)), .sh (.int (many : Nat)), .sh (.lst (c.map D.int)), .sh (.int (sm w c % (m : Nat))), s8, s9, s10, s11, s12, s13, s14, s15, s16, s17, s18, s19, s20, s21] := by
  have ss := szL
  have hm' : (0 : Int) < ((m : Nat) : Int) := by omega
  have l1 := pairsL_len (qd w (m : Nat)) many
  have l2 := pairsL_len (qs w (m : Nat)) (many - 1)
  refine ⟨w, (m : Nat), many, rfl, hw, hm', by omega, w, (m : Nat), many, rfl, hw, hm', by omega, w, (m : Nat), many, rfl, hw, hm', by omega, w, (m : Nat), many, rfl, hw, hm', by omega, And.intro (by show 2 ≤ _; omega) (And.intro (by show 2 ≤ _; omega) ?_)⟩
  refine same_use (ok_l2 (ok_pairs 5 (by omega)) (ok_pairs 5 (by omega))) ?_
  refine ⟨w, m, many, rfl, hw, hm, hm2, by omega, w, m, many, rfl, hw, hm, hm2, by omega, And.intro (by show 2 ≤ _; omega) (And.intro (by show 0 ≤ _; omega) (And.intro (And.intro (sh_pairs _) (sh_lst0 19)) (And.intro (by show 0 ≤ _; omega) (And.intro (And.intro (sh_pairs _) (sh_lst0 19)) (And.intro (by show 2 ≤ _; omega) ?_)))))⟩
  rw [eqD_nil, eqD_nil, emp_pairs, emp_pairs]
  refine same_use (ok_l2 (okBl 7 _) (okBl 7 _)) ?_
  exact t12_ok hn hw hm hc hcm hd k
end
end K44
namespace K44
open PL
def goodF (w : List Int) (m : Int) (c : List Int) (d : D) : Option D := match d with
  | .int b => if okd w m c b.toNat then some (.int b) else none
  | _ => none
theorem goodF_at (w : List Int) (m : Int) (c : List Int) (j : Nat) : goodF w m c (.int ((0 : Int) + (j : Nat))) = if okd w m c j then some (intN j) else none := by
  show (if okd w m c ((0 : Int) + (j : Nat)).toNat then some (D.int ((0 : Int) + (j : Nat))) else none) = _
  rw [Int.zero_add, Int.toNat_natCast]; rfl
theorem good_filter (w : List Int) (m : Int) (c : List Int) (n : Nat) : (rangeD 0 n).filterMap (goodF w m c) = ((List.range n).filter (okd w m c)).map intN := by
  unfold rangeD
  exact filterMap_if (fun j => goodF_at w m c j) _
section
variable {K' : Rv → Prop} {ns w c : List Int} {n many m : Nat}
theorem t8_ok {s3 s8 s9 s10 s11 s12 s13 s14 s15 s16 s17 s18 s19 s20 s21 : Sl} (hn : n < 2 ^ 60) (hw : OkW w) (hm : 0 < m) (hm2 : m < 2 ^ 30) (hc : c.length ≤ 100) (hcm : c.length = many) (hd : ∀ x ∈ c, 0 ≤ x ∧ x ≤ 9) (k : K' (.sh (.bl true))) :
    t8 (EN K') [.sh (.lck (ns.map D.int)), .own (.pool n), .sh (.lst (w.map D.int)), s3, .sh (.int (m : Nat)), .sh (.int (many : Nat)), .sh (.lst (c.map D.int)), .sh (.int (sm w c % (m : Nat))), s8, s9, s10, s11, s12, s13, s14, s15, s16, s17, s18, s19, s20, s21] := by
  have ss := szL
  have hm' : (0 : Int) < ((m : Nat) : Int) := by omega
  have e30 : (2 : Nat) ^ 30 = 1073741824 := by decide
  have e30' : (2 : Int) ^ 30 = 1073741824 := by decide
  refine lc_filter (ds := rangeD 0 (min 10 ((m : Nat) : Int)).toNat) (goodF w (m : Nat) c) (fun K k => And.intro (And.intro (by omega) (by omega)) k) (fun d Q1 Q0 hd' q0 q1 => ?_) (by rw [rangeD_len]; omega) ?_
  · obtain ⟨j, hj, rfl⟩ := rangeD_mem hd'
    rw [goodF_at] at q0 q1
    rw [Int.zero_add] at *
    have el : c.map D.int ++ [.int (j : Nat)] = (c ++ [(j : Int)]).map D.int := by simp
    refine And.intro (by show 1 ≤ _; omega) (And.intro (by rw [List.length_map]; show _ + 1 ≤ _; omega) ⟨w, (m : Nat), c ++ [(j : Int)], by rw [el], hw, hm', by simp; omega, And.intro (And.intro trivial trivial) (ifB (fun h => ?_) (fun h => ?_))⟩)
    · rw [eqD_int] at h
      exact q1 _ (if_pos h)
    · rw [eqD_int] at h
      exact q0 (if_neg (by show ¬ decide (sm w (c ++ [(j : Int)]) % (m : Nat) = 0) = true; rw [h]; decide))
  · rw [good_filter]
    cases hg : (List.range (min 10 ((m : Nat) : Int)).toNat).filter (okd w (m : Nat) c) with
    | nil =>
      have hwc : wcD w (m : Nat) c = .non := by
        unfold wcD
        rw [← List.head?_filter, hg]; rfl
      have fin : P__law_same [.non, .non] (fun r => K' r → K' r) := same_use (okNon 8) (fun _ => k)
      refine ⟨w, (m : Nat), c, rfl, hw, hm', by omega, by omega, ?_, fun x hx => by rw [hwc] at hx; cases hx⟩
      rw [hwc]
      refine And.intro (by show 0 ≤ _; omega) (And.intro (And.intro (fun d h => by cases h) (sh_lst0 19)) ?_)
      refine same_use (okNon 8) ?_
      exact t10_ok hn hw hm hm2 hc hcm hd k
    | cons d r =>
      have hwc : wcD w (m : Nat) c = .lst ((c ++ [(d : Int)]).map D.int) := by
        unfold wcD
        rw [← List.head?_filter, hg]; rfl
      have e1 : cutL ((d :: r).map intN) none (some 1) = [.int (d : Nat)] := cut_to _ 1
      have el : c.map D.int ++ [.int (d : Nat)] = (c ++ [(d : Int)]).map D.int := by simp
      refine ⟨w, (m : Nat), c, rfl, hw, hm', by omega, by omega, ?_, fun x hx => ?_⟩
      · rw [hwc]
        refine And.intro (by show 0 ≤ _; omega) (And.intro (And.intro ?_ (sh_lst0 19)) (And.intro (by rw [e1, List.length_map]; show _ + 1 ≤ _; omega) ?_))
        · intro d' h
          obtain ⟨x, _, rfl⟩ := List.mem_map.mp h
          trivial
        · rw [e1, el]
          refine same_use (ok_ints 7 (by simp; omega)) ?_
          exact t10_ok hn hw hm hm2 hc hcm hd k
      · rw [hwc] at hx
        cases hx
        refine And.intro (by show 0 ≤ _; omega) (And.intro (And.intro ?_ (sh_lst0 19)) (And.intro (by rw [e1, List.length_map]; show _ + 1 ≤ _; omega) ?_))
        · intro d' h
          obtain ⟨x, _, rfl⟩ := List.mem_map.mp h
          trivial
        · rw [e1, el]
          refine same_use (ok_ints 7 (by simp; omega)) ?_
          exact t10_ok hn hw hm hm2 hc hcm hd k
theorem t7_ok {s3 s7 s8 s9 s10 s11 s12 s13 s14 s15 s16 s17 s18 s19 s20 s21 : Sl} (hn : n < 2 ^ 60) (hw : OkW w) (hm : 0 < m) (hm2 : m < 2 ^ 30) (hc : c.length ≤ 100) (hcm : c.length = many) (hd : ∀ x ∈ c, 0 ≤ x ∧ x ≤ 9) (k : K' (.sh (.bl true))) :
    t7 (EN K') [.sh (.lck (ns.map D.int)), .own (.pool n), .own (.lst (w.map D.int)), s3, .sh (.int (m : Nat)), .sh (.int (many : Nat)), .own (.lst (c.map D.int)), s7, s8, s9, s10, s11, s12, s13, s14, s15, s16, s17, s18, s19, s20, s21] := by
  have ss := szL
  have hm' : (0 : Int) < ((m : Nat) : Int) := by omega
  refine ⟨w, (m : Nat), c, rfl, hw, hm', by omega, w, (m : Nat), c, rfl, hw, hm', by omega, w, (m : Nat), c, rfl, hw, hm', by omega, And.intro (by show 2 ≤ _; omega) (And.intro (And.intro trivial trivial) (And.intro (by show 2 ≤ _; omega) ?_))⟩
  rw [eqD_int]
  refine same_use (ok_l2 (okInt 7 _) (okBl 7 _)) ?_
  exact t8_ok hn hw hm hm2 hc hcm hd k
end
end K44
namespace K44
open PL
def P_law : PSp := fun ds K => ∃ ns : List Int, ds = [.lck (ns.map D.int)] ∧ Good ns ∧ K (.sh (.bl true))
theorem law_start : ∀ ns K', Good ns → K' (.sh (.bl true)) → P_law [.lck (ns.map D.int)] K' := fun ns K' h k => ⟨ns, rfl, h, k⟩
theorem l_law : ∀ ds K', P_law ds K' → r_law P__law_pool P__law_draw P__law_next P__law_sum P__law_same P_check_sum P_is_checked P_with_check P__law_digits P__law_swaps P_unnoticed_digits P_unnoticed_swaps P_notices_digits P_notices_swaps P_mended P_judge_slip P_lost_digit P_least_modulus { nx := fun _ => K' (.sh .non), rt := fun r _ => K' r } (startE ["script", "pool", "weights", "k", "modulus", "many", "code", "total", "good", "digit", "digits", "swaps", "near", "every", "one", "gap", "other", "due", "few", "least", "number", "told"] ds) := by
  rintro ds K' ⟨ns, rfl, hg, k⟩
  have ss := szL
  refine ⟨ns, rfl, hg, ?_⟩
  refine lc_draws2 (n := 1) (c := 1) (B := 1000) (fun n => [.sh (.lck (ns.map D.int)), .own (.pool n), .un, .un, .un, .un, .un, .un, .un, .un, .un, .un, .un, .un, .un, .un, .un, .un, .un, .un, .un, .un]) (fun y => ∃ i, y = .int i ∧ (1 ≤ i ∧ i ≤ 12)) (fun v : Int => 0 ≤ v ∧ v < 4) (fun v => rangeD 0 (1 + v).toNat) (fun K h => ⟨0, 4, rfl, rfl, by decide, by decide, by decide, fun v v0 v1 => And.intro (And.intro (by omega) (by omega)) (h v ⟨v0, v1⟩)⟩) (fun v m d Q hv hm hd q => ?_) (fun v hv => by rw [rangeD_len]; omega) (fun v hv acc hl ha => ?_)
  · exact ⟨m, 12, rfl, rfl, by decide, by decide, by omega, fun u u0 u1 => q _ ⟨_, rfl, by omega, by omega⟩⟩
  · obtain ⟨v0, v1⟩ := hv
    obtain ⟨w, rfl, hw⟩ := ints_good ha
    rw [rangeD_len, List.length_map] at hl
    rw [rangeD_len]
    have hW : OkW w := ⟨by omega, by omega, hw⟩
    refine ⟨1 + 1 * (1 + v).toNat, 12, rfl, rfl, by decide, by decide, by omega, fun a a0 a1 => ⟨_, 6, rfl, rfl, by decide, by decide, by omega, fun b b0 b1 => And.intro (by show 2 ≤ _; omega) (And.intro rfl ?_)⟩⟩
    obtain ⟨m, hm⟩ : ∃ m : Nat, (2 : Int) + a = ((m : Nat) : Int) := ⟨(2 + a).toNat, by omega⟩
    obtain ⟨many, hn⟩ : ∃ many : Nat, (1 : Int) + b = ((many : Nat) : Int) := ⟨(1 + b).toNat, by omega⟩
    generalize hp : 1 + 1 * (1 + v).toNat + 1 + 1 = p
    have hp2 : p ≤ 100 := by omega
    refine (show t6 (EN K') [.sh (.lck (ns.map D.int)), .own (.pool p), .own (.lst (w.map D.int)), .un, .sh (.int (2 + a)), .sh (.int (1 + b)), .un, .un, .un, .un, .un, .un, .un, .un, .un, .un, .un, .un, .un, .un, .un, .un] from ?_)
    rw [hm, hn]
    refine lc_draws (ds := rangeD 0 many) (n := p) (c := 1) (B := 1000) (fun n => [.sh (.lck (ns.map D.int)), .own (.pool n), .own (.lst (w.map D.int)), .un, .sh (.int (m : Nat)), .sh (.int (many : Nat)), .un, .un, .un, .un, .un, .un, .un, .un, .un, .un, .un, .un, .un, .un, .un, .un]) (fun y => ∃ i, y = .int i ∧ (0 ≤ i ∧ i ≤ 9)) (fun K k => And.intro (by omega) (by rw [Int.toNat_natCast]; exact k)) (fun m d Q hm hd q => ?_) (by rw [rangeD_len]; omega) (by rw [rangeD_len]; omega) (fun acc hl ha => ?_)
    · exact ⟨m, 10, rfl, rfl, by decide, by decide, by omega, fun u u0 u1 => q _ ⟨_, rfl, by omega, by omega⟩⟩
    · obtain ⟨c, rfl, hc⟩ := ints_good ha
      rw [rangeD_len, List.length_map] at hl
      rw [rangeD_len]
      refine ⟨p + 1 * many, rfl, rfl, by omega, ?_⟩
      have e30 : (2 : Nat) ^ 30 = 1073741824 := by decide
      exact t7_ok (by omega) hW (by omega) (by omega) (by omega) hl hc k
end K44
namespace K44
open PySem PySem.Spec PyProof.Rows L2 PL
theorem all_mk {l : PySem.W.OpenLaw} {w : World} {K : PySem.W.Frag} {h : Heap} {mg : Str → Option Value} {fa : Addr} (X : K.In h) (G : h.Ns mainGlobals mg) (hfa : mg "law" = some (.ref fa)) (q_check_sum : Kf K "check_sum" s_check_sum) (q_is_checked : Kf K "is_checked" s_is_checked) (q_with_check : Kf K "with_check" s_with_check) (q_unnoticed_digits : Kf K "unnoticed_digits" s_unnoticed_digits) (q_unnoticed_swaps : Kf K "unnoticed_swaps" s_unnoticed_swaps) (q_notices_digits : Kf K "notices_digits" s_notices_digits) (q_notices_swaps : Kf K "notices_swaps" s_notices_swaps) (q_least_modulus : Kf K "least_modulus" s_least_modulus) (q_lost_digit : Kf K "lost_digit" s_lost_digit) (q_mended : Kf K "mended" s_mended) (q_judge_slip : Kf K "judge_slip" s_judge_slip) (q__law_mixed : Kf K "_law_mixed" s__law_mixed) (q__law_rest : Kf K "_law_rest" s__law_rest) (q__law_pool : Kf K "_law_pool" s__law_pool) (q__law_next : Kf K "_law_next" s__law_next) (q__law_draw : Kf K "_law_draw" s__law_draw) (q__law_same : Kf K "_law_same" s__law_same) (q__law_sum : Kf K "_law_sum" s__law_sum) (q__law_digits : Kf K "_law_digits" s__law_digits) (q__law_swaps : Kf K "_law_swaps" s__law_swaps) (q_law : Kf K "law" s_law) (z_enumerate : PySem.W.nsIn K mainGlobals "enumerate" = some none) (z_len : PySem.W.nsIn K mainGlobals "len" = some none) (z_sum : PySem.W.nsIn K mainGlobals "sum" = some none) (z_min : PySem.W.nsIn K mainGlobals "min" = some none) (z_range : PySem.W.nsIn K mainGlobals "range" = some none) (z_list : PySem.W.nsIn K mainGlobals "list" = some none) (z_all : PySem.W.nsIn K mainGlobals "all" = some none) (z_sorted : PySem.W.nsIn K mainGlobals "sorted" = some none) (z_int : PySem.W.nsIn K mainGlobals "int" = some none) (z_isinstance : PySem.W.nsIn K mainGlobals "isinstance" = some none) (z_dict : PySem.W.nsIn K mainGlobals "dict" = some none) (z_tuple : PySem.W.nsIn K mainGlobals "tuple" = some none) (z_str : PySem.W.nsIn K mainGlobals "str" = some none) (z_bool : PySem.W.nsIn K mainGlobals "bool" = some none) (z_abs : PySem.W.nsIn K mainGlobals "abs" = some none) (x_gcd : PySem.W.nsIn K mainGlobals "gcd" = some (some (.builtin "math.gcd"))) :
    ∃ fd : FuncData, (∀ (s : Shared) (v : Value), BindsTo s fd ⟨[v], []⟩ [("script", v)]) ∧ ∀ base : Heap, K.In base → base.Ns mainGlobals mg → FnOk l.prog w K mg base CX0 10 fa fd ["script"] (spOf K P_law) := by
  have m_enumerate := PySem.W.mg_none_of X G z_enumerate
  have m_len := PySem.W.mg_none_of X G z_len
  have m_sum := PySem.W.mg_none_of X G z_sum
  have m_min := PySem.W.mg_none_of X G z_min
  have m_range := PySem.W.mg_none_of X G z_range
  have m_list := PySem.W.mg_none_of X G z_list
  have m_all := PySem.W.mg_none_of X G z_all
  have m_sorted := PySem.W.mg_none_of X G z_sorted
  have m_int := PySem.W.mg_none_of X G z_int
  have m_isinstance := PySem.W.mg_none_of X G z_isinstance
  have m_dict := PySem.W.mg_none_of X G z_dict
  have m_tuple := PySem.W.mg_none_of X G z_tuple
  have m_str := PySem.W.mg_none_of X G z_str
  have m_bool := PySem.W.mg_none_of X G z_bool
  have m_abs := PySem.W.mg_none_of X G z_abs
  have m_gcd := PySem.W.mg_of X G x_gcd
  have t_check_sum : Top K mg "check_sum" s_check_sum ["weights", "modulus", "code"] := Kf.top X G q_check_sum (fun _ _ _ _ _ _ us hl => match us, hl with | [_, _, _], _ => rfl)
  have t_is_checked : Top K mg "is_checked" s_is_checked ["weights", "modulus", "code"] := Kf.top X G q_is_checked (fun _ _ _ _ _ _ us hl => match us, hl with | [_, _, _], _ => rfl)
  have t_with_check : Top K mg "with_check" s_with_check ["weights", "modulus", "code"] := Kf.top X G q_with_check (fun _ _ _ _ _ _ us hl => match us, hl with | [_, _, _], _ => rfl)
  have t_unnoticed_digits : Top K mg "unnoticed_digits" s_unnoticed_digits ["weights", "modulus", "many"] := Kf.top X G q_unnoticed_digits (fun _ _ _ _ _ _ us hl => match us, hl with | [_, _, _], _ => rfl)
  have t_unnoticed_swaps : Top K mg "unnoticed_swaps" s_unnoticed_swaps ["weights", "modulus", "many"] := Kf.top X G q_unnoticed_swaps (fun _ _ _ _ _ _ us hl => match us, hl with | [_, _, _], _ => rfl)
  have t_notices_digits : Top K mg "notices_digits" s_notices_digits ["weights", "modulus", "many"] := Kf.top X G q_notices_digits (fun _ _ _ _ _ _ us hl => match us, hl with | [_, _, _], _ => rfl)
  have t_notices_swaps : Top K mg "notices_swaps" s_notices_swaps ["weights", "modulus", "many"] := Kf.top X G q_notices_swaps (fun _ _ _ _ _ _ us hl => match us, hl with | [_, _, _], _ => rfl)
  have t_least_modulus : Top K mg "least_modulus" s_least_modulus ["weights", "many"] := Kf.top X G q_least_modulus (fun _ _ _ _ _ _ us hl => match us, hl with | [_, _], _ => rfl)
  have t_lost_digit : Top K mg "lost_digit" s_lost_digit ["weights", "modulus", "code", "place"] := Kf.top X G q_lost_digit (fun _ _ _ _ _ _ us hl => match us, hl with | [_, _, _, _], _ => rfl)
  have t_mended : Top K mg "mended" s_mended ["weights", "modulus", "code"] := Kf.top X G q_mended (fun _ _ _ _ _ _ us hl => match us, hl with | [_, _, _], _ => rfl)
  have t_judge_slip : Top K mg "judge_slip" s_judge_slip ["weights", "modulus", "code", "other"] := Kf.top X G q_judge_slip (fun _ _ _ _ _ _ us hl => match us, hl with | [_, _, _, _], _ => rfl)
  have t__law_mixed : Top K mg "_law_mixed" s__law_mixed ["number", "place"] := Kf.top X G q__law_mixed (fun _ _ _ _ _ _ us hl => match us, hl with | [_, _], _ => rfl)
  have t__law_rest : Top K mg "_law_rest" s__law_rest ["script", "place", "turns"] := Kf.top X G q__law_rest (fun _ _ _ _ _ _ us hl => match us, hl with | [_, _, _], _ => rfl)
  have t__law_pool : Top K mg "_law_pool" s__law_pool ["script"] := Kf.top X G q__law_pool (fun _ _ _ _ _ _ us hl => match us, hl with | [_], _ => rfl)
  have t__law_next : Top K mg "_law_next" s__law_next ["pool"] := Kf.top X G q__law_next (fun _ _ _ _ _ _ us hl => match us, hl with | [_], _ => rfl)
  have t__law_draw : Top K mg "_law_draw" s__law_draw ["pool", "limit"] := Kf.top X G q__law_draw (fun _ _ _ _ _ _ us hl => match us, hl with | [_, _], _ => rfl)
  have t__law_same : Top K mg "_law_same" s__law_same ["answer", "due"] := Kf.top X G q__law_same (fun _ _ _ _ _ _ us hl => match us, hl with | [_, _], _ => rfl)
  have t__law_sum : Top K mg "_law_sum" s__law_sum ["weights", "modulus", "code"] := Kf.top X G q__law_sum (fun _ _ _ _ _ _ us hl => match us, hl with | [_, _, _], _ => rfl)
  have t__law_digits : Top K mg "_law_digits" s__law_digits ["weights", "modulus", "many"] := Kf.top X G q__law_digits (fun _ _ _ _ _ _ us hl => match us, hl with | [_, _, _], _ => rfl)
  have t__law_swaps : Top K mg "_law_swaps" s__law_swaps ["weights", "modulus", "many"] := Kf.top X G q__law_swaps (fun _ _ _ _ _ _ us hl => match us, hl with | [_, _, _], _ => rfl)
  have gots : ∀ base : Heap, Body l.prog w K mg base 9 "law" N_law s_law (r_law P__law_pool P__law_draw P__law_next P__law_sum P__law_same P_check_sum P_is_checked P_with_check P__law_digits P__law_swaps P_unnoticed_digits P_unnoticed_swaps P_notices_digits P_notices_swaps P_mended P_judge_slip P_lost_digit P_least_modulus) := fun base => by
    have g_check_sum : ∀ k : Nat, Got l.prog w K mg base (k + 1) "check_sum" ["weights", "modulus", "code"] (spOf K P_check_sum) := fun k => got_fn t_check_sum sc_check_sum (b_check_sum (k := k + 0) m_enumerate m_len m_sum) (by intros; rename_i z; first | (obtain ⟨_, rfl, _⟩ := z; rfl) | (obtain ⟨_, _, rfl, _⟩ := z; rfl) | (obtain ⟨_, _, _, rfl, _⟩ := z; rfl) | (obtain ⟨_, _, _, _, rfl, _⟩ := z; rfl) | (obtain ⟨_, _, _, _, _, rfl, _⟩ := z; rfl) | (obtain ⟨_, _, _, _, _, _, rfl, _⟩ := z; rfl) | (obtain ⟨rfl, _⟩ := z; rfl)) l_check_sum
    have g_is_checked : ∀ k : Nat, Got l.prog w K mg base (k + 2) "is_checked" ["weights", "modulus", "code"] (spOf K P_is_checked) := fun k => got_fn t_is_checked sc_is_checked (b_is_checked (k := k + 1) ((g_check_sum k).mono (by omega))) (by intros; rename_i z; first | (obtain ⟨_, rfl, _⟩ := z; rfl) | (obtain ⟨_, _, rfl, _⟩ := z; rfl) | (obtain ⟨_, _, _, rfl, _⟩ := z; rfl) | (obtain ⟨_, _, _, _, rfl, _⟩ := z; rfl) | (obtain ⟨_, _, _, _, _, rfl, _⟩ := z; rfl) | (obtain ⟨_, _, _, _, _, _, rfl, _⟩ := z; rfl) | (obtain ⟨rfl, _⟩ := z; rfl)) l_is_checked
    have g_with_check : ∀ k : Nat, Got l.prog w K mg base (k + 3) "with_check" ["weights", "modulus", "code"] (spOf K P_with_check) := fun k => got_fn t_with_check sc_with_check (b_with_check (k := k + 2) ((g_is_checked k).mono (by omega)) m_min m_range m_list) (by intros; rename_i z; first | (obtain ⟨_, rfl, _⟩ := z; rfl) | (obtain ⟨_, _, rfl, _⟩ := z; rfl) | (obtain ⟨_, _, _, rfl, _⟩ := z; rfl) | (obtain ⟨_, _, _, _, rfl, _⟩ := z; rfl) | (obtain ⟨_, _, _, _, _, rfl, _⟩ := z; rfl) | (obtain ⟨_, _, _, _, _, _, rfl, _⟩ := z; rfl) | (obtain ⟨rfl, _⟩ := z; rfl)) l_with_check
    have g_unnoticed_digits : ∀ k : Nat, Got l.prog w K mg base (k + 1) "unnoticed_digits" ["weights", "modulus", "many"] (spOf K P_unnoticed_digits) := fun k => got_fn t_unnoticed_digits sc_unnoticed_digits (b_unnoticed_digits (k := k + 0) m_range m_len) (by intros; rename_i z; first | (obtain ⟨_, rfl, _⟩ := z; rfl) | (obtain ⟨_, _, rfl, _⟩ := z; rfl) | (obtain ⟨_, _, _, rfl, _⟩ := z; rfl) | (obtain ⟨_, _, _, _, rfl, _⟩ := z; rfl) | (obtain ⟨_, _, _, _, _, rfl, _⟩ := z; rfl) | (obtain ⟨_, _, _, _, _, _, rfl, _⟩ := z; rfl) | (obtain ⟨rfl, _⟩ := z; rfl)) l_unnoticed_digits
    have g_unnoticed_swaps : ∀ k : Nat, Got l.prog w K mg base (k + 1) "unnoticed_swaps" ["weights", "modulus", "many"] (spOf K P_unnoticed_swaps) := fun k => got_fn t_unnoticed_swaps sc_unnoticed_swaps (b_unnoticed_swaps (k := k + 0) m_range m_len) (by intros; rename_i z; first | (obtain ⟨_, rfl, _⟩ := z; rfl) | (obtain ⟨_, _, rfl, _⟩ := z; rfl) | (obtain ⟨_, _, _, rfl, _⟩ := z; rfl) | (obtain ⟨_, _, _, _, rfl, _⟩ := z; rfl) | (obtain ⟨_, _, _, _, _, rfl, _⟩ := z; rfl) | (obtain ⟨_, _, _, _, _, _, rfl, _⟩ := z; rfl) | (obtain ⟨rfl, _⟩ := z; rfl)) l_unnoticed_swaps
    have g_notices_digits : ∀ k : Nat, Got l.prog w K mg base (k + 1) "notices_digits" ["weights", "modulus", "many"] (spOf K P_notices_digits) := fun k => got_fn t_notices_digits sc_notices_digits (b_notices_digits (k := k + 0) m_range m_len m_all m_gcd) (by intros; rename_i z; first | (obtain ⟨_, rfl, _⟩ := z; rfl) | (obtain ⟨_, _, rfl, _⟩ := z; rfl) | (obtain ⟨_, _, _, rfl, _⟩ := z; rfl) | (obtain ⟨_, _, _, _, rfl, _⟩ := z; rfl) | (obtain ⟨_, _, _, _, _, rfl, _⟩ := z; rfl) | (obtain ⟨_, _, _, _, _, _, rfl, _⟩ := z; rfl) | (obtain ⟨rfl, _⟩ := z; rfl)) l_notices_digits
    have g_notices_swaps : ∀ k : Nat, Got l.prog w K mg base (k + 1) "notices_swaps" ["weights", "modulus", "many"] (spOf K P_notices_swaps) := fun k => got_fn t_notices_swaps sc_notices_swaps (b_notices_swaps (k := k + 0) m_range m_len m_gcd) (by intros; rename_i z; first | (obtain ⟨_, rfl, _⟩ := z; rfl) | (obtain ⟨_, _, rfl, _⟩ := z; rfl) | (obtain ⟨_, _, _, rfl, _⟩ := z; rfl) | (obtain ⟨_, _, _, _, rfl, _⟩ := z; rfl) | (obtain ⟨_, _, _, _, _, rfl, _⟩ := z; rfl) | (obtain ⟨_, _, _, _, _, _, rfl, _⟩ := z; rfl) | (obtain ⟨rfl, _⟩ := z; rfl)) l_notices_swaps
    have g_least_modulus : ∀ k : Nat, Got l.prog w K mg base (k + 2) "least_modulus" ["weights", "many"] (spOf K P_least_modulus) := fun k => got_fn t_least_modulus sc_least_modulus (b_least_modulus (k := k + 1) ((g_notices_digits k).mono (by omega)) ((g_notices_swaps k).mono (by omega)) m_range) (by intros; rename_i z; first | (obtain ⟨_, rfl, _⟩ := z; rfl) | (obtain ⟨_, _, rfl, _⟩ := z; rfl) | (obtain ⟨_, _, _, rfl, _⟩ := z; rfl) | (obtain ⟨_, _, _, _, rfl, _⟩ := z; rfl) | (obtain ⟨_, _, _, _, _, rfl, _⟩ := z; rfl) | (obtain ⟨_, _, _, _, _, _, rfl, _⟩ := z; rfl) | (obtain ⟨rfl, _⟩ := z; rfl)) l_least_modulus
    have g_lost_digit : ∀ k : Nat, Got l.prog w K mg base (k + 3) "lost_digit" ["weights", "modulus", "code", "place"] (spOf K P_lost_digit) := fun k => got_fn t_lost_digit sc_lost_digit (b_lost_digit (k := k + 2) ((g_is_checked k).mono (by omega)) m_range m_list) (by intros; rename_i z; first | (obtain ⟨_, rfl, _⟩ := z; rfl) | (obtain ⟨_, _, rfl, _⟩ := z; rfl) | (obtain ⟨_, _, _, rfl, _⟩ := z; rfl) | (obtain ⟨_, _, _, _, rfl, _⟩ := z; rfl) | (obtain ⟨_, _, _, _, _, rfl, _⟩ := z; rfl) | (obtain ⟨_, _, _, _, _, _, rfl, _⟩ := z; rfl) | (obtain ⟨rfl, _⟩ := z; rfl)) l_lost_digit
    have g_mended : ∀ k : Nat, Got l.prog w K mg base (k + 4) "mended" ["weights", "modulus", "code"] (spOf K P_mended) := fun k => got_fn t_mended sc_mended (b_mended (k := k + 3) ((g_lost_digit k).mono (by omega)) m_enumerate m_list m_sorted) (by intros; rename_i z; first | (obtain ⟨_, rfl, _⟩ := z; rfl) | (obtain ⟨_, _, rfl, _⟩ := z; rfl) | (obtain ⟨_, _, _, rfl, _⟩ := z; rfl) | (obtain ⟨_, _, _, _, rfl, _⟩ := z; rfl) | (obtain ⟨_, _, _, _, _, rfl, _⟩ := z; rfl) | (obtain ⟨_, _, _, _, _, _, rfl, _⟩ := z; rfl) | (obtain ⟨rfl, _⟩ := z; rfl)) l_mended
    have g_judge_slip : ∀ k : Nat, Got l.prog w K mg base (k + 3) "judge_slip" ["weights", "modulus", "code", "other"] (spOf K P_judge_slip) := fun k => got_fn t_judge_slip sc_judge_slip (b_judge_slip (k := k + 2) ((g_is_checked k).mono (by omega)) m_len m_list) (by intros; rename_i z; first | (obtain ⟨_, rfl, _⟩ := z; rfl) | (obtain ⟨_, _, rfl, _⟩ := z; rfl) | (obtain ⟨_, _, _, rfl, _⟩ := z; rfl) | (obtain ⟨_, _, _, _, rfl, _⟩ := z; rfl) | (obtain ⟨_, _, _, _, _, rfl, _⟩ := z; rfl) | (obtain ⟨_, _, _, _, _, _, rfl, _⟩ := z; rfl) | (obtain ⟨rfl, _⟩ := z; rfl)) l_judge_slip
    have g__law_mixed : ∀ k : Nat, Got l.prog w K mg base (k + 1) "_law_mixed" ["number", "place"] (spOf K P__law_mixed) := fun k => got_fn t__law_mixed sc__law_mixed (b__law_mixed (k := k + 0) m_int) (by intros; rename_i z; first | (obtain ⟨_, rfl, _⟩ := z; rfl) | (obtain ⟨_, _, rfl, _⟩ := z; rfl) | (obtain ⟨_, _, _, rfl, _⟩ := z; rfl) | (obtain ⟨_, _, _, _, rfl, _⟩ := z; rfl) | (obtain ⟨_, _, _, _, _, rfl, _⟩ := z; rfl) | (obtain ⟨_, _, _, _, _, _, rfl, _⟩ := z; rfl) | (obtain ⟨rfl, _⟩ := z; rfl)) law_mixed
    have g__law_rest : ∀ k : Nat, Got l.prog w K mg base (k + 2) "_law_rest" ["script", "place", "turns"] (spOf K P__law_rest) := fun k => got_fn t__law_rest sc__law_rest (b__law_rest (k := k + 1) ((g__law_mixed k).mono (by omega)) m_len m_int) (by intros; rename_i z; first | (obtain ⟨_, rfl, _⟩ := z; rfl) | (obtain ⟨_, _, rfl, _⟩ := z; rfl) | (obtain ⟨_, _, _, rfl, _⟩ := z; rfl) | (obtain ⟨_, _, _, _, rfl, _⟩ := z; rfl) | (obtain ⟨_, _, _, _, _, rfl, _⟩ := z; rfl) | (obtain ⟨_, _, _, _, _, _, rfl, _⟩ := z; rfl) | (obtain ⟨rfl, _⟩ := z; rfl)) law_rest
    have g__law_pool : ∀ k : Nat, Got l.prog w K mg base (k + 3) "_law_pool" ["script"] (spOf K P__law_pool) := fun k => (got_fn (Sp := P_poolL) t__law_pool sc__law_pool (b__law_pool (k := k + 2) ((g__law_rest k).mono (by omega))) (fun _ _ ⟨_, e, _⟩ => by rw [e]; rfl) law_poolL).imp fun _ _ _ _ z => poolNew_imp pool_imp z
    have g__law_next : ∀ k : Nat, Got l.prog w K mg base (k + 3) "_law_next" ["pool"] (spIo K P__law_next) := fun k => (got_fnI (Sp := P_nextL) t__law_next sc__law_next (b__law_next (k := k + 2) ((g__law_rest k).mono (by omega))) (fun _ _ _ ⟨_, _, _, _, e, _⟩ => by rw [e]; rfl) law_nextL).imp fun _ _ _ _ z => viaL_imp next_imp z
    have g__law_draw : ∀ k : Nat, Got l.prog w K mg base (k + 3) "_law_draw" ["pool", "limit"] (spIo K P__law_draw) := fun k => (got_fnI (Sp := P_drawL) t__law_draw sc__law_draw (b__law_draw (k := k + 2) ((g__law_rest k).mono (by omega)) m_int) (fun _ _ _ ⟨_, _, _, _, _, e, _⟩ => by rw [e]; rfl) law_drawL).imp fun _ _ _ _ z => viaL_imp draw_imp z
    have g__law_same : ∀ k : Nat, Got l.prog w K mg base (k + 9) "_law_same" ["answer", "due"] (spOf K P__law_same) := fun k => by unfold P__law_same; exact ((got_same t__law_same sc__law_same (fun k Sp g => b__law_same g m_isinstance m_dict m_len m_all m_list m_tuple m_range m_str m_int m_bool) 8).mono (by omega))
    have g__law_sum : ∀ k : Nat, Got l.prog w K mg base (k + 1) "_law_sum" ["weights", "modulus", "code"] (spOf K P__law_sum) := fun k => got_fn t__law_sum sc__law_sum (b__law_sum (k := k + 0) m_len m_range m_int m_sum) (by intros; rename_i z; first | (obtain ⟨_, rfl, _⟩ := z; rfl) | (obtain ⟨_, _, rfl, _⟩ := z; rfl) | (obtain ⟨_, _, _, rfl, _⟩ := z; rfl) | (obtain ⟨_, _, _, _, rfl, _⟩ := z; rfl) | (obtain ⟨_, _, _, _, _, rfl, _⟩ := z; rfl) | (obtain ⟨_, _, _, _, _, _, rfl, _⟩ := z; rfl) | (obtain ⟨rfl, _⟩ := z; rfl)) l__law_sum
    have g__law_digits : ∀ k : Nat, Got l.prog w K mg base (k + 1) "_law_digits" ["weights", "modulus", "many"] (spOf K P__law_digits) := fun k => got_fn t__law_digits sc__law_digits (b__law_digits (k := k + 0) m_range m_int m_len) (by intros; rename_i z; first | (obtain ⟨_, rfl, _⟩ := z; rfl) | (obtain ⟨_, _, rfl, _⟩ := z; rfl) | (obtain ⟨_, _, _, rfl, _⟩ := z; rfl) | (obtain ⟨_, _, _, _, rfl, _⟩ := z; rfl) | (obtain ⟨_, _, _, _, _, rfl, _⟩ := z; rfl) | (obtain ⟨_, _, _, _, _, _, rfl, _⟩ := z; rfl) | (obtain ⟨rfl, _⟩ := z; rfl)) l__law_digits
    have g__law_swaps : ∀ k : Nat, Got l.prog w K mg base (k + 1) "_law_swaps" ["weights", "modulus", "many"] (spOf K P__law_swaps) := fun k => got_fn t__law_swaps sc__law_swaps (b__law_swaps (k := k + 0) m_range m_int m_len) (by intros; rename_i z; first | (obtain ⟨_, rfl, _⟩ := z; rfl) | (obtain ⟨_, _, rfl, _⟩ := z; rfl) | (obtain ⟨_, _, _, rfl, _⟩ := z; rfl) | (obtain ⟨_, _, _, _, rfl, _⟩ := z; rfl) | (obtain ⟨_, _, _, _, _, rfl, _⟩ := z; rfl) | (obtain ⟨_, _, _, _, _, _, rfl, _⟩ := z; rfl) | (obtain ⟨rfl, _⟩ := z; rfl)) l__law_swaps
    exact b_law ((g__law_pool 0).mono (by omega)) ((g__law_draw 0).mono (by omega)) ((g__law_next 0).mono (by omega)) ((g__law_sum 0).mono (by omega)) ((g__law_same 0).mono (by omega)) ((g_check_sum 0).mono (by omega)) ((g_is_checked 0).mono (by omega)) ((g_with_check 0).mono (by omega)) ((g__law_digits 0).mono (by omega)) ((g__law_swaps 0).mono (by omega)) ((g_unnoticed_digits 0).mono (by omega)) ((g_unnoticed_swaps 0).mono (by omega)) ((g_notices_digits 0).mono (by omega)) ((g_notices_swaps 0).mono (by omega)) ((g_mended 0).mono (by omega)) ((g_judge_slip 0).mono (by omega)) ((g_lost_digit 0).mono (by omega)) ((g_least_modulus 0).mono (by omega)) m_range m_min m_sorted m_abs
  exact law_end X G hfa q_law (fun _ _ _ _ _ _ _ => rfl) sc_law gots (by intros; rename_i z; first | (obtain ⟨_, rfl, _⟩ := z; rfl) | (obtain ⟨_, _, rfl, _⟩ := z; rfl) | (obtain ⟨_, _, _, rfl, _⟩ := z; rfl) | (obtain ⟨_, _, _, _, rfl, _⟩ := z; rfl) | (obtain ⟨_, _, _, _, _, rfl, _⟩ := z; rfl) | (obtain ⟨_, _, _, _, _, _, rfl, _⟩ := z; rfl) | (obtain ⟨rfl, _⟩ := z; rfl)) l_law
end K44
open PySem PySem.W PyProof.Rows PL K44
set_option maxHeartbeats 0 in
theorem PySem.Challenge.cw_inkwright_k44_whole_codes_that_are_check_holds : PySem.Challenge.rw_inkwright_k44_whole_codes_that_are_check.Holds := by
  w_on; o_law; k_head; (case hw => w_witness2)
  k_fill
  refine L2.walk_ofB (l := PySem.Challenge.rw_inkwright_k44_whole_codes_that_are_check) (n := 63) (k := 10) (x := "script") (CX := fun _ => L2.CX0) (sp := fun w => PL.spOf _ K44.P_law) rfl (by decide) rfl ⟨rfl, by decide, by decide⟩ (fun w h Y => PySem.W.kIn_of Y) ?F (fun _ _ a ns hl hb _ hS => law_imp K44.law_start hl hb hS) (fun _ _ _ _ _ h => h)
  case F =>
    intro w mg fa h KX G hmg
    refine' K44.all_mk KX G hmg ?q_check_sum ?q_is_checked ?q_with_check ?q_unnoticed_digits ?q_unnoticed_swaps ?q_notices_digits ?q_notices_swaps ?q_least_modulus ?q_lost_digit ?q_mended ?q_judge_slip ?q__law_mixed ?q__law_rest ?q__law_pool ?q__law_next ?q__law_draw ?q__law_same ?q__law_sum ?q__law_digits ?q__law_swaps ?q_law ?z_enumerate ?z_len ?z_sum ?z_min ?z_range ?z_list ?z_all ?z_sorted ?z_int ?z_isinstance ?z_dict ?z_tuple ?z_str ?z_bool ?z_abs ?x_gcd
    (case q_check_sum => (refine' kf_mk ?a ?l ?c ?k; (case a => k_is); (case l => k_is); (case c => k_is); (case k => k_is)))
    (case q_is_checked => (refine' kf_mk ?a ?l ?c ?k; (case a => k_is); (case l => k_is); (case c => k_is); (case k => k_is)))
    (case q_with_check => (refine' kf_mk ?a ?l ?c ?k; (case a => k_is); (case l => k_is); (case c => k_is); (case k => k_is)))
    (case q_unnoticed_digits => (refine' kf_mk ?a ?l ?c ?k; (case a => k_is); (case l => k_is); (case c => k_is); (case k => k_is)))
    (case q_unnoticed_swaps => (refine' kf_mk ?a ?l ?c ?k; (case a => k_is); (case l => k_is); (case c => k_is); (case k => k_is)))
    (case q_notices_digits => (refine' kf_mk ?a ?l ?c ?k; (case a => k_is); (case l => k_is); (case c => k_is); (case k => k_is)))
    (case q_notices_swaps => (refine' kf_mk ?a ?l ?c ?k; (case a => k_is); (case l => k_is); (case c => k_is); (case k => k_is)))
    (case q_least_modulus => (refine' kf_mk ?a ?l ?c ?k; (case a => k_is); (case l => k_is); (case c => k_is); (case k => k_is)))
    (case q_lost_digit => (refine' kf_mk ?a ?l ?c ?k; (case a => k_is); (case l => k_is); (case c => k_is); (case k => k_is)))
    (case q_mended => (refine' kf_mk ?a ?l ?c ?k; (case a => k_is); (case l => k_is); (case c => k_is); (case k => k_is)))
    (case q_judge_slip => (refine' kf_mk ?a ?l ?c ?k; (case a => k_is); (case l => k_is); (case c => k_is); (case k => k_is)))
    (case q__law_mixed => (refine' kf_mk ?a ?l ?c ?k; (case a => k_is); (case l => k_is); (case c => k_is); (case k => k_is)))
    (case q__law_rest => (refine' kf_mk ?a ?l ?c ?k; (case a => k_is); (case l => k_is); (case c => k_is); (case k => k_is)))
    (case q__law_pool => (refine' kf_mk ?a ?l ?c ?k; (case a => k_is); (case l => k_is); (case c => k_is); (case k => k_is)))
    (case q__law_next => (refine' kf_mk ?a ?l ?c ?k; (case a => k_is); (case l => k_is); (case c => k_is); (case k => k_is)))
    (case q__law_draw => (refine' kf_mk ?a ?l ?c ?k; (case a => k_is); (case l => k_is); (case c => k_is); (case k => k_is)))
    (case q__law_same => (refine' kf_mk ?a ?l ?c ?k; (case a => k_is); (case l => k_is); (case c => k_is); (case k => k_is)))
    (case q__law_sum => (refine' kf_mk ?a ?l ?c ?k; (case a => k_is); (case l => k_is); (case c => k_is); (case k => k_is)))
    (case q__law_digits => (refine' kf_mk ?a ?l ?c ?k; (case a => k_is); (case l => k_is); (case c => k_is); (case k => k_is)))
    (case q__law_swaps => (refine' kf_mk ?a ?l ?c ?k; (case a => k_is); (case l => k_is); (case c => k_is); (case k => k_is)))
    (case q_law => (refine' kf_mk ?a ?l ?c ?k; (case a => k_is); (case l => k_is); (case c => k_is); (case k => k_is)))
    (case z_enumerate => k_is)
    (case z_len => k_is)
    (case z_sum => k_is)
    (case z_min => k_is)
    (case z_range => k_is)
    (case z_list => k_is)
    (case z_all => k_is)
    (case z_sorted => k_is)
    (case z_int => k_is)
    (case z_isinstance => k_is)
    (case z_dict => k_is)
    (case z_tuple => k_is)
    (case z_str => k_is)
    (case z_bool => k_is)
    (case z_abs => k_is)
    (case x_gcd => k_is)
