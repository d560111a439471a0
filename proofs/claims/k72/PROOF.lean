import PyProof.Rows.All
import Wide.All
import OpenK.AllK
import Wide.FinOn
import HandS.ForMost
import HandS.ForExc
import HandS.Walk
import HandS.SuiteRaise
import HandS.Defaults
import HandS.IsInst
import HandS.HeadHook2
import HandS.HeadEnd
import HandS.CallSlots
import HandS.ExcOwn
import HandS.ExcCtx
import HandS.HeadWalk
import HandS.TryElse
import KE.DataEq
import HandS.TupAny
import HandS.More
import KE.DataFind
import KE.GoesMore
import KE.GoesEnum
import HandS.Zip
import KE.KDictZip
import HandS.GenList
import HandS.Keys
import HandS.Words
import HandS.HeadHook4
import HandS.Head2
import HandS.TupSets
import KE.KeyNested
import KE.SortData
import KE.KStateDown
import PySem.Challenge.RW_samesmith_k72_lefts_held_against_terms
set_option Elab.async false
set_option linter.all false
section
set_option Elab.async false
set_option linter.all false
set_option maxRecDepth 100000
namespace Mn
open PySem PySem.Spec PyProof.Rows L2

/-! ## values -/
inductive PV where
  | non | bl (b : Bool) | int (i : Int) | str (s : Str)
  | tup (xs : List PV) | lst (xs : List PV)
  | dic (ks : List Key) (vs : List PV)
  | ins (c : Str) (fs : List Str) (vs : List PV)
  | scr (ns : List Int)
  | ty (n : String) | cl (c : Str)
  | ref (n : Nat)
  deriving Inhabited

/-- what stands at an abstract place -/
inductive AO where
  | lst (xs : List PV)
  | dic (ks : List Key) (vs : List PV)
  | ins (c : Str) (fs : List Str) (vs : List PV)
  deriving Inhabited
abbrev AH := List AO

/-! induction over values -/
theorem PV.ind {P : PV → Prop} (non : P .non) (bl : ∀ b, P (.bl b)) (int : ∀ i, P (.int i)) (str : ∀ s, P (.str s))
    (tup : ∀ xs, (∀ x ∈ xs, P x) → P (.tup xs)) (lst : ∀ xs, (∀ x ∈ xs, P x) → P (.lst xs))
    (dic : ∀ ks vs, (∀ x ∈ vs, P x) → P (.dic ks vs)) (ins : ∀ c fs vs, (∀ x ∈ vs, P x) → P (.ins c fs vs))
    (scr : ∀ ns, P (.scr ns)) (ty : ∀ n, P (.ty n)) (cl : ∀ c, P (.cl c)) (ref : ∀ n, P (.ref n)) : ∀ v, P v := by
  intro v
  refine PV.rec (motive_1 := P) (motive_2 := fun xs => ∀ x ∈ xs, P x) non bl int str (fun xs h => tup xs h) (fun xs h => lst xs h) (fun ks vs h => dic ks vs h) (fun c fs vs h => ins c fs vs h) scr ty cl ref ?_ ?_ v
  · intro x h; cases h
  · intro x xs hx hxs y hy
    rcases List.mem_cons.mp hy with e | e
    · rw [e]; exact hx
    · exact hxs y e

/-! no abstract place from b on is named -/
mutual
def PV.low (b : Nat) : PV → Bool
  | .non => true
  | .bl _ => true
  | .int _ => true
  | .str _ => true
  | .tup xs => PV.lowL b xs
  | .lst xs => PV.lowL b xs
  | .dic _ vs => PV.lowL b vs
  | .ins _ _ vs => PV.lowL b vs
  | .scr _ => true
  | .ty _ => true
  | .cl _ => true
  | .ref n => decide (n < b)
def PV.lowL (b : Nat) : List PV → Bool
  | [] => true
  | x :: xs => x.low b && PV.lowL b xs
end
theorem PV.lowL_iff {b : Nat} : ∀ {xs : List PV}, PV.lowL b xs = true ↔ ∀ x ∈ xs, x.low b = true
  | [] => by simp [PV.lowL]
  | x :: xs => by simp [PV.lowL, PV.lowL_iff (xs := xs)]
theorem PV.low_mono {b c : Nat} (h : b ≤ c) : ∀ v : PV, v.low b = true → v.low c = true := by
  intro v
  induction v using PV.ind with
  | tup xs ih => simp only [PV.low, PV.lowL_iff]; exact fun q x hx => ih x hx (q x hx)
  | lst xs ih => simp only [PV.low, PV.lowL_iff]; exact fun q x hx => ih x hx (q x hx)
  | dic ks xs ih => simp only [PV.low, PV.lowL_iff]; exact fun q x hx => ih x hx (q x hx)
  | ins c fs xs ih => simp only [PV.low, PV.lowL_iff]; exact fun q x hx => ih x hx (q x hx)
  | ref n => simp only [PV.low, decide_eq_true_eq]; omega
  | _ => intro _; rfl
def AO.low (b : Nat) : AO → Bool
  | .lst xs => PV.lowL b xs
  | .dic _ vs => PV.lowL b vs
  | .ins _ _ vs => PV.lowL b vs

/-! ## how a value stands in the heap -/
section
variable (cA : Str → Addr) (K : PySem.W.Frag) (ρ Z : List Addr) (H : Hp)
/-- an address that nobody writes any more -/
def Still (a : Addr) : Prop := a ∉ ρ ∧ a ∉ Z
mutual
def rep : PV → V → Prop
  | .non, v => v = .non
  | .bl b, v => v = .bl b
  | .int i, v => v = .int i
  | .str s, v => v = .str s
  | .tup xs, v => ∃ a vs, v = .ref a ∧ SqT K H a vs ∧ xs.length ≤ sizeLine ∧ repL xs vs
  | .lst xs, v => ∃ a vs, v = .ref a ∧ H a = some (.lst vs) ∧ Still ρ Z a ∧ xs.length ≤ sizeLine ∧ repL xs vs
  | .dic ks xs, v => ∃ a vs, v = .ref a ∧ H a = some (.dK (ks.zip vs)) ∧ ks.length = vs.length ∧ Still ρ Z a ∧ repL xs vs
  | .ins c fs xs, v => ∃ a dx vs, v = .ref a ∧ H a = some (.ins (cA c) dx (fs.zip vs)) ∧ fs.length = vs.length ∧ Still ρ Z a ∧ repL xs vs
  | .scr ns, v => ∃ a o, v = .ref a ∧ H a = some (.frz o (.lst (ns.map V.int))) ∧ Still ρ Z a
  | .ty n, v => v = .ty n
  | .cl c, v => v = .ref (cA c)
  | .ref n, v => ∃ a, v = .ref a ∧ ρ[n]? = some a
def repL : List PV → List V → Prop
  | [], vs => vs = []
  | x :: xs, vs => ∃ w ws, vs = w :: ws ∧ rep x w ∧ repL xs ws
end
end

section
variable {cA : Str → Addr} {K : PySem.W.Frag} {ρ Z : List Addr} {H : Hp}
theorem repL_iff : ∀ {xs : List PV} {vs : List V}, repL cA K ρ Z H xs vs ↔ xs.length = vs.length ∧ ∀ (i : Nat) (x : PV) (v : V), xs[i]? = some x → vs[i]? = some v → rep cA K ρ Z H x v
  | [], vs => by
    unfold repL
    constructor
    · rintro rfl; simp
    · rintro ⟨h, _⟩; exact List.length_eq_zero_iff.mp h.symm
  | x :: xs, vs => by
    unfold repL
    constructor
    · rintro ⟨w, ws, rfl, h1, h2⟩
      obtain ⟨l, g⟩ := (repL_iff (xs := xs) (vs := ws)).mp h2
      refine ⟨by simp [l], fun i y v e1 e2 => ?_⟩
      cases i with
      | zero => simp at e1 e2; subst e1; subst e2; exact h1
      | succ i => exact g i y v (by simpa using e1) (by simpa using e2)
    · rintro ⟨l, g⟩
      cases vs with
      | nil => simp at l
      | cons w ws => exact ⟨w, ws, rfl, g 0 x w rfl rfl, (repL_iff (xs := xs) (vs := ws)).mpr ⟨by simpa using l, fun i y v e1 e2 => g (i + 1) y v (by simpa using e1) (by simpa using e2)⟩⟩
theorem repL.length {xs : List PV} {vs : List V} (h : repL cA K ρ Z H xs vs) : xs.length = vs.length := (repL_iff.mp h).1
theorem repL.get {xs : List PV} {vs : List V} (h : repL cA K ρ Z H xs vs) {i : Nat} {x : PV} (e : xs[i]? = some x) : ∃ v, vs[i]? = some v ∧ rep cA K ρ Z H x v := by
  obtain ⟨l, g⟩ := repL_iff.mp h
  have hi : i < xs.length := (List.getElem?_eq_some_iff.mp e).1
  have hv : vs[i]? = some (vs[i]'(l ▸ hi)) := by simp
  exact ⟨_, hv, g i x _ e hv⟩
theorem repL.getV {xs : List PV} {vs : List V} (h : repL cA K ρ Z H xs vs) {i : Nat} {v : V} (e : vs[i]? = some v) : ∃ x, xs[i]? = some x ∧ rep cA K ρ Z H x v := by
  obtain ⟨l, g⟩ := repL_iff.mp h
  have hi : i < vs.length := (List.getElem?_eq_some_iff.mp e).1
  have hv : xs[i]? = some (xs[i]'(l ▸ hi)) := by simp
  exact ⟨_, hv, g i _ v hv e⟩
theorem repL.append {xs ys : List PV} {vs ws : List V} (h : repL cA K ρ Z H xs vs) (h' : repL cA K ρ Z H ys ws) : repL cA K ρ Z H (xs ++ ys) (vs ++ ws) := by
  induction xs generalizing vs with
  | nil => unfold repL at h; subst h; exact h'
  | cons x xs ih =>
    unfold repL at h
    obtain ⟨w, ws', rfl, h1, h2⟩ := h
    show repL cA K ρ Z H (x :: (xs ++ ys)) (w :: (ws' ++ ws))
    unfold repL
    exact ⟨_, _, rfl, h1, ih h2⟩
theorem repL.one {x : PV} {v : V} (h : rep cA K ρ Z H x v) : repL cA K ρ Z H [x] [v] := by
  unfold repL
  exact ⟨v, [], rfl, h, by unfold repL; rfl⟩
theorem repL_cons {x : PV} {xs : List PV} {v : V} {vs : List V} : repL cA K ρ Z H (x :: xs) (v :: vs) ↔ rep cA K ρ Z H x v ∧ repL cA K ρ Z H xs vs := by
  conv => lhs; unfold repL
  constructor
  · rintro ⟨w, ws, e, h1, h2⟩; cases e; exact ⟨h1, h2⟩
  · rintro ⟨h1, h2⟩; exact ⟨_, _, rfl, h1, h2⟩
theorem repL.nil : repL cA K ρ Z H [] [] := by unfold repL; rfl

/-- what may happen: the written places may change and be more; all else that is tracked stays -/
structure Step (ρ Z : List Addr) (H : Hp) (ρ' : List Addr) (H' : Hp) : Prop where
  pre : ∃ more, ρ' = ρ ++ more ∧ ∀ a ∈ more, H a = none ∧ a ∉ Z
  keep : ∀ a o, H a = some o → a ∉ ρ → H' a = some o
  there : ∀ a, H a ≠ none → H' a ≠ none
theorem Step.refl : Step ρ Z H ρ H := ⟨⟨[], by simp, by simp⟩, fun _ _ h _ => h, fun _ h => h⟩
theorem Step.trans {ρ1 ρ2 : List Addr} {H1 H2 : Hp} (a : Step ρ Z H ρ1 H1) (b : Step ρ1 Z H1 ρ2 H2) : Step ρ Z H ρ2 H2 := by
  obtain ⟨m1, e1, n1⟩ := a.pre
  obtain ⟨m2, e2, n2⟩ := b.pre
  have nm : ∀ x, H x = none ∨ x ∈ ρ ∨ H1 x = H x := fun x => by
    cases q : H x with
    | none => exact .inl rfl
    | some o =>
      by_cases hx : x ∈ ρ
      · exact .inr (.inl hx)
      · exact .inr (.inr (a.keep x o q hx))
  refine ⟨⟨m1 ++ m2, by rw [e2, e1, List.append_assoc], fun x hx => ?_⟩, fun x o h hx => ?_, fun x h => b.there x (a.there x h)⟩
  · rcases List.mem_append.mp hx with h | h
    · exact n1 x h
    · obtain ⟨q1, q2⟩ := n2 x h
      refine ⟨?_, q2⟩
      cases q : H x with
      | none => rfl
      | some o => exact absurd q1 (a.there x (by rw [q]; simp))
  · refine b.keep x o (a.keep x o h hx) fun hm => ?_
    rw [e1] at hm
    rcases List.mem_append.mp hm with z | z
    · exact hx z
    · rw [(n1 x z).1] at h; cases h
theorem Step.still {ρ' : List Addr} {H' : Hp} (s : Step ρ Z H ρ' H') {a : Addr} {o : HO} (h : Still ρ Z a) (e : H a = some o) : Still ρ' Z a ∧ H' a = some o := by
  obtain ⟨m, e1, n⟩ := s.pre
  refine ⟨⟨fun hm => ?_, h.2⟩, s.keep a o e h.1⟩
  rw [e1] at hm
  rcases List.mem_append.mp hm with z | z
  · exact h.1 z
  · rw [(n a z).1] at e; cases e
theorem Step.sqT {ρ' : List Addr} {H' : Hp} (s : Step ρ Z H ρ' H') (ht : ∀ a ∈ ρ, ∀ xs, ¬ Rd H a (.tup xs)) {a : Addr} {xs : List V} (h : SqT K H a xs) : SqT K H' a xs := by
  rcases h with h | h
  · have na : a ∉ ρ := fun z => ht a z xs h
    rcases h with h | ⟨o, h⟩
    · exact .inl (.inl (s.keep a _ h na))
    · exact .inl (.inr ⟨o, s.keep a _ h na⟩)
  · exact .inr h
end
/-- at the written places stand lists, dicts, instances -/
def Written (ρ : List Addr) (H : Hp) : Prop := ∀ a ∈ ρ, (∃ xs, H a = some (.lst xs)) ∨ (∃ kvs, H a = some (.dK kvs)) ∨ (∃ C dx fs, H a = some (.ins C dx fs))
theorem Written.noTup {ρ : List Addr} {H : Hp} (w : Written ρ H) : ∀ a ∈ ρ, ∀ xs, ¬ Rd H a (.tup xs) := by
  intro a ha xs h
  rcases w a ha with ⟨ys, e⟩ | ⟨kvs, e⟩ | ⟨C, dx, fs, e⟩ <;> rcases h with h | ⟨o', h⟩ <;> (rw [e] at h; cases h)
section
variable {cA : Str → Addr} {K : PySem.W.Frag} {ρ Z : List Addr} {H : Hp}
/-- more may be reserved, if it was not there -/
def ZX (H : Hp) (Z Z' : List Addr) : Prop := ∀ a ∈ Z', a ∈ Z ∨ H a = none
theorem ZX.refl : ZX H Z Z := fun _ h => .inl h
theorem Step.stillZ {Z' : List Addr} {ρ' : List Addr} {H' : Hp} (s : Step ρ Z H ρ' H') (zx : ZX H Z Z') {a : Addr} {o : HO} (h : Still ρ Z a) (e : H a = some o) : Still ρ' Z' a ∧ H' a = some o := by
  obtain ⟨q1, q2⟩ := s.still h e
  refine ⟨⟨q1.1, fun hz => ?_⟩, q2⟩
  rcases zx a hz with z | z
  · exact h.2 z
  · rw [e] at z; cases z
/-- THE STEP keeps what values stand for -/
theorem rep_stepZ {Z' : List Addr} {ρ' : List Addr} {H' : Hp} (s : Step ρ Z H ρ' H') (wr : Written ρ H) (zx : ZX H Z Z') : ∀ (x : PV) (v : V), rep cA K ρ Z H x v → rep cA K ρ' Z' H' x v := by
  intro x
  have lift : ∀ {xs : List PV}, (∀ x ∈ xs, ∀ v, rep cA K ρ Z H x v → rep cA K ρ' Z' H' x v) → ∀ {vs}, repL cA K ρ Z H xs vs → repL cA K ρ' Z' H' xs vs := by
    intro xs hx vs h
    obtain ⟨l, g⟩ := repL_iff.mp h
    exact repL_iff.mpr ⟨l, fun i x v e1 e2 => hx x (List.mem_of_getElem? e1) v (g i x v e1 e2)⟩
  induction x using PV.ind with
  | non => intro v h; exact h
  | bl b => intro v h; exact h
  | int i => intro v h; exact h
  | str z => intro v h; exact h
  | tup xs ih =>
    intro v h
    unfold rep at h ⊢
    obtain ⟨a, vs, e, h1, hz, h2⟩ := h
    exact ⟨a, vs, e, s.sqT wr.noTup h1, hz, lift ih h2⟩
  | lst xs ih =>
    intro v h
    unfold rep at h ⊢
    obtain ⟨a, vs, e, h1, h2, hz, h3⟩ := h
    obtain ⟨q1, q2⟩ := s.stillZ zx h2 h1
    exact ⟨a, vs, e, q2, q1, hz, lift ih h3⟩
  | dic ks xs ih =>
    intro v h
    unfold rep at h ⊢
    obtain ⟨a, vs, e, h1, hl, h2, h3⟩ := h
    obtain ⟨q1, q2⟩ := s.stillZ zx h2 h1
    exact ⟨a, vs, e, q2, hl, q1, lift ih h3⟩
  | ins c fs xs ih =>
    intro v h
    unfold rep at h ⊢
    obtain ⟨a, dx, vs, e, h1, hl, h2, h3⟩ := h
    obtain ⟨q1, q2⟩ := s.stillZ zx h2 h1
    exact ⟨a, dx, vs, e, q2, hl, q1, lift ih h3⟩
  | scr ns =>
    intro v h
    unfold rep at h ⊢
    obtain ⟨a, o, e, h1, h2⟩ := h
    obtain ⟨q1, q2⟩ := s.stillZ zx h2 h1
    exact ⟨a, o, e, q2, q1⟩
  | ty n => intro v h; exact h
  | cl n => intro v h; exact h
  | ref n =>
    intro v h
    unfold rep at h ⊢
    obtain ⟨a, e, h1⟩ := h
    obtain ⟨m, e1, _⟩ := s.pre
    refine ⟨a, e, ?_⟩
    rw [e1, List.getElem?_append_left (List.getElem?_eq_some_iff.mp h1).1]
    exact h1
theorem repL_stepZ {Z' : List Addr} {ρ' : List Addr} {H' : Hp} (s : Step ρ Z H ρ' H') (wr : Written ρ H) (zx : ZX H Z Z') {xs : List PV} {vs : List V} (h : repL cA K ρ Z H xs vs) : repL cA K ρ' Z' H' xs vs := by
  obtain ⟨l, g⟩ := repL_iff.mp h
  exact repL_iff.mpr ⟨l, fun i x v e1 e2 => rep_stepZ s wr zx x v (g i x v e1 e2)⟩
theorem rep_step {ρ' : List Addr} {H' : Hp} (s : Step ρ Z H ρ' H') (wr : Written ρ H) (x : PV) (v : V) (h : rep cA K ρ Z H x v) : rep cA K ρ' Z H' x v := rep_stepZ s wr .refl x v h
theorem repL_step {ρ' : List Addr} {H' : Hp} (s : Step ρ Z H ρ' H') (wr : Written ρ H) {xs : List PV} {vs : List V} (h : repL cA K ρ Z H xs vs) : repL cA K ρ' Z H' xs vs := repL_stepZ s wr .refl h
end

/-! ## the abstract heap -/
def objR (cA : Str → Addr) (K : PySem.W.Frag) (ρ Z : List Addr) (H : Hp) (a : Addr) : AO → Prop
  | .lst xs => ∃ vs, H a = some (.lst vs) ∧ xs.length ≤ sizeLine ∧ repL cA K ρ Z H xs vs
  | .dic ks xs => ∃ vs, H a = some (.dK (ks.zip vs)) ∧ ks.length = vs.length ∧ repL cA K ρ Z H xs vs
  | .ins c fs xs => ∃ dx vs, H a = some (.ins (cA c) dx (fs.zip vs)) ∧ fs.length = vs.length ∧ repL cA K ρ Z H xs vs
structure Good (cA : Str → Addr) (K : PySem.W.Frag) (B : List Nat) (b : Nat) (ρ Z : List Addr) (h : AH) (H : Hp) : Prop where
  len : ρ.length = h.length
  nd : ρ.Nodup
  obj : ∀ (n : Nat) (a : Addr) (o : AO), ρ[n]? = some a → h[n]? = some o → objR cA K ρ Z H a o
  base : b ≤ h.length
  bs : ∀ c ∈ B, c ≤ b
  cl : ∀ c ∈ B, ∀ (n : Nat) (o : AO), n < c → h[n]? = some o → o.low c = true
  dis : ∀ a ∈ ρ, a ∉ Z
  zt : ∀ a ∈ Z, H a ≠ none
section
variable {cA : Str → Addr} {K : PySem.W.Frag} {B : List Nat} {b : Nat} {ρ Z : List Addr} {h : AH} {H : Hp}
theorem Good.at_ (G : Good cA K B b ρ Z h H) {n : Nat} {o : AO} (e : h[n]? = some o) : ∃ a, ρ[n]? = some a ∧ objR cA K ρ Z H a o := by
  have hn : n < ρ.length := by rw [G.len]; exact (List.getElem?_eq_some_iff.mp e).1
  exact ⟨ρ[n], by simp [hn], G.obj n _ o (by simp [hn]) e⟩
theorem Good.written (G : Good cA K B b ρ Z h H) : Written ρ H := by
  intro a ha
  obtain ⟨n, hn⟩ := List.mem_iff_getElem?.mp ha
  have hl : n < h.length := by rw [← G.len]; exact (List.getElem?_eq_some_iff.mp hn).1
  have q := G.obj n a (h[n]) hn (by simp [hl])
  cases e : h[n] with
  | lst xs => rw [e] at q; obtain ⟨vs, q, _⟩ := q; exact .inl ⟨_, q⟩
  | dic ks xs => rw [e] at q; obtain ⟨vs, q, _⟩ := q; exact .inr (.inl ⟨_, q⟩)
  | ins c fs xs => rw [e] at q; obtain ⟨dx, vs, q, _⟩ := q; exact .inr (.inr ⟨_, _, _, q⟩)
theorem Good.there (G : Good cA K B b ρ Z h H) {a : Addr} (ha : a ∈ ρ) : H a ≠ none := by
  rcases G.written a ha with ⟨xs, e⟩ | ⟨kvs, e⟩ | ⟨C, dx, fs, e⟩ <;> (rw [e]; simp)
/-- what is behind: the world went on -/
structure Nxt (cA : Str → Addr) (K : PySem.W.Frag) (B : List Nat) (b : Nat) (ρ Z : List Addr) (H : Hp) (ρ' : List Addr) (h' : AH) (H' : Hp) : Prop where
  good : Good cA K B b ρ' Z h' H'
  step : Step ρ Z H ρ' H'
theorem Good.nxt (G : Good cA K B b ρ Z h H) : Nxt cA K B b ρ Z H ρ h H := ⟨G, .refl⟩
theorem Nxt.trans {ρ1 ρ2 : List Addr} {H1 H2 : Hp} {h1 h2 : AH} (a : Nxt cA K B b ρ Z H ρ1 h1 H1) (c : Nxt cA K B b ρ1 Z H1 ρ2 h2 H2) : Nxt cA K B b ρ Z H ρ2 h2 H2 := ⟨c.good, a.step.trans c.step⟩
theorem Nxt.rep {ρ1 : List Addr} {H1 : Hp} {h1 : AH} (a : Nxt cA K B b ρ Z H ρ1 h1 H1) (G : Good cA K B b ρ Z h H) {x : PV} {v : V} (r : Mn.rep cA K ρ Z H x v) : Mn.rep cA K ρ1 Z H1 x v := rep_step a.step G.written x v r
theorem Nxt.repL {ρ1 : List Addr} {H1 : Hp} {h1 : AH} (a : Nxt cA K B b ρ Z H ρ1 h1 H1) (G : Good cA K B b ρ Z h H) {x : List PV} {v : List V} (r : Mn.repL cA K ρ Z H x v) : Mn.repL cA K ρ1 Z H1 x v := repL_step a.step G.written r
end
end Mn
end
section
set_option Elab.async false
set_option linter.all false
set_option maxRecDepth 100000
namespace Mn
open PySem PySem.Spec L2

/-! ## answers -/
inductive R (α : Type) where
  | ok (a : α) (h : AH)
  | exc (fr : Bool) (c : Str) (as : List PV) (h : AH)
  | bad
def R.bind {α β : Type} (r : R α) (f : α → AH → R β) : R β := match r with
  | .ok a h => f a h
  | .exc fr c as h => .exc fr c as h
  | .bad => .bad
@[simp] theorem R.bind_ok {α β : Type} (a : α) (h : AH) (f : α → AH → R β) : (R.ok a h).bind f = f a h := rfl
@[simp] theorem R.bind_exc {α β : Type} (fr : Bool) (c : Str) (as : List PV) (h : AH) (f : α → AH → R β) : (R.exc fr c as h).bind f = .exc fr c as h := rfl
@[simp] theorem R.bind_bad {α β : Type} (f : α → AH → R β) : (R.bad : R α).bind f = .bad := rfl
abbrev EnvP := List (Option PV)
abbrev Dn (α : Type) := EnvP → Nat → AH → R α

/-- what is fixed through a law -/
structure Tt where
  /-- a def's own level: not within a try's body -/
  dl : Bool
  /-- what is raised must be fresh (its context None) -/
  m : Bool
  P : Program
  w : World
  K : PySem.W.Frag
  mg : Str → Option Value
  base : Heap
  cA : Str → Addr

def visB (sc : Scope) (x : Str) : Bool := match sc.names.lookup x with
  | some .local => true
  | some .cell => true
  | some .free => true
  | _ => false
def locB (sc : Scope) (x : Str) : Bool := match sc.names.lookup x with
  | some .local => true
  | some .cell => true
  | _ => false
def glB (sc : Scope) (x : Str) : Bool := match sc.names.lookup x with
  | some .globalImplicit => true
  | _ => false
structure CxOk (T : Tt) (k : Nat) (N : List Str) (sc : Scope) (X : Cx) : Prop where
  hP : X.prog = T.P
  hw : X.w = T.w
  hK : X.K = T.K
  hmg : X.mg = T.mg
  hb : X.base = T.base
  hN : X.N = N
  nd : N.Nodup
  calm : X.calm = true
  room : Room k X.A
  lk : ∀ x kd, sc.names.lookup x = some kd → X.env.scope.names.lookup x = some kd ∨ (kd = .free ∧ X.env.scope.names.lookup x = some .cell)
  fnc : ∀ x, sc.names.lookup x = some .cell → X.fn x = true
  skind : X.env.scope.kind = .function
section
variable {T : Tt} {k : Nat} {N : List Str} {sc : Scope} {X : Cx}
theorem CxOk.vis (c : CxOk T k N sc X) (x : Str) (h : visB sc x = true) : Vis X.env.scope x := by
  unfold visB at h
  split at h
  · rename_i e; rcases c.lk x _ e with z | ⟨z, _⟩; exact .inl z; cases z
  · rename_i e; rcases c.lk x _ e with z | ⟨z, _⟩; exact .inr (.inl z); cases z
  · rename_i e; rcases c.lk x _ e with z | ⟨_, z⟩; exact .inr (.inr z); exact .inr (.inl z)
  · cases h
theorem CxOk.loc (c : CxOk T k N sc X) (x : Str) (h : locB sc x = true) : Loc X.env.scope x ∧ (X.fn x = true ∨ X.env.scope.names.lookup x = some .local) := by
  unfold locB at h
  split at h
  · rename_i e; rcases c.lk x _ e with z | ⟨z, _⟩; exact ⟨.inl z, .inr z⟩; cases z
  · rename_i e; rcases c.lk x _ e with z | ⟨z, _⟩; exact ⟨.inr z, .inl (c.fnc x e)⟩; cases z
  · cases h
theorem CxOk.gl (c : CxOk T k N sc X) (x : Str) (h : glB sc x = true) : Gl X x := by
  unfold glB at h
  split at h
  · rename_i e; rcases c.lk x _ e with z | ⟨z, _⟩; exact z; cases z
  · cases h
end

/-- how an exception lies -/
def excR (T : Tt) (c : Str) (as : List PV) (cls : Value) (d : Option Addr) (H : Hp) : Prop := as = [] ∧ cls = .ref (T.cA c) ∧ d = none

section
variable (T : Tt) (B : List Nat) (b : Nat) (ρ Z : List Addr) (H : Hp)
/-- what an answer asks of what is wanted -/
def post (W : WX) (σ : L2.St) (r : R PV) (Q : VK) : Prop := match r with
  | .ok v h' => ∀ ρ' H' w, Nxt T.cA T.K B b ρ Z H ρ' h' H' → rep T.cA T.K ρ' Z H' v w → Q w H'
  | .exc fr c as h' => (T.m = true → fr = true) ∧ ∀ ρ' H' cls d, Nxt T.cA T.K B b ρ Z H ρ' h' H' → excR T c as cls d H' → W cls d σ H'
  | .bad => False
def postT (W : WX) (σ : L2.St) (r : R Bool) (Q : Bool → Hp → Prop) : Prop := match r with
  | .ok v h' => ∀ ρ' H', Nxt T.cA T.K B b ρ Z H ρ' h' H' → Q v H'
  | .exc fr c as h' => (T.m = true → fr = true) ∧ ∀ ρ' H' cls d, Nxt T.cA T.K B b ρ Z H ρ' h' H' → excR T c as cls d H' → W cls d σ H'
  | .bad => False
def postA (W : WX) (σ : L2.St) (r : R (List PV)) (Q : List V → Hp → Prop) : Prop := match r with
  | .ok v h' => ∀ ρ' H' w, Nxt T.cA T.K B b ρ Z H ρ' h' H' → repL T.cA T.K ρ' Z H' v w → Q w H'
  | .exc fr c as h' => (T.m = true → fr = true) ∧ ∀ ρ' H' cls d, Nxt T.cA T.K B b ρ Z H ρ' h' H' → excR T c as cls d H' → W cls d σ H'
  | .bad => False
def envR (env : EnvP) (σ : L2.St) : Prop := env.length = σ.length ∧ ∀ (i : Nat) (x : PV), env[i]? = some (some x) → ∃ v, σ[i]? = some (some v) ∧ rep T.cA T.K ρ Z H x v
end
section
variable {T : Tt} {B : List Nat} {b : Nat} {ρ Z : List Addr} {h : AH} {H : Hp} {W : WX} {σ : L2.St}
theorem envR.step {ρ1 : List Addr} {H1 : Hp} {h1 : AH} {env : EnvP} (n : Nxt T.cA T.K B b ρ Z H ρ1 h1 H1) (G : Good T.cA T.K B b ρ Z h H) (e : envR T ρ Z H env σ) : envR T ρ1 Z H1 env σ :=
  ⟨e.1, fun i x q => let ⟨v, q1, q2⟩ := e.2 i x q; ⟨v, q1, n.rep G q2⟩⟩
theorem post.shift {ρ1 : List Addr} {H1 : Hp} {h1 : AH} {r : R PV} {Q : VK} (n : Nxt T.cA T.K B b ρ Z H ρ1 h1 H1) (p : post T B b ρ Z H W σ r Q) : post T B b ρ1 Z H1 W σ r Q := by
  cases r with
  | ok v h' => exact fun ρ' H' w n' => p ρ' H' w (n.trans n')
  | exc fr c as h' => exact ⟨p.1, fun ρ' H' cls d n' => p.2 ρ' H' cls d (n.trans n')⟩
  | bad => exact p
theorem postT.shift {ρ1 : List Addr} {H1 : Hp} {h1 : AH} {r : R Bool} {Q : Bool → Hp → Prop} (n : Nxt T.cA T.K B b ρ Z H ρ1 h1 H1) (p : postT T B b ρ Z H W σ r Q) : postT T B b ρ1 Z H1 W σ r Q := by
  cases r with
  | ok v h' => exact fun ρ' H' n' => p ρ' H' (n.trans n')
  | exc fr c as h' => exact ⟨p.1, fun ρ' H' cls d n' => p.2 ρ' H' cls d (n.trans n')⟩
  | bad => exact p
theorem postA.shift {ρ1 : List Addr} {H1 : Hp} {h1 : AH} {r : R (List PV)} {Q : List V → Hp → Prop} (n : Nxt T.cA T.K B b ρ Z H ρ1 h1 H1) (p : postA T B b ρ Z H W σ r Q) : postA T B b ρ1 Z H1 W σ r Q := by
  cases r with
  | ok v h' => exact fun ρ' H' w n' => p ρ' H' w (n.trans n')
  | exc fr c as h' => exact ⟨p.1, fun ρ' H' cls d n' => p.2 ρ' H' cls d (n.trans n')⟩
  | bad => exact p
/-- what goes on behind an answer: it bears what is raised -/
structure CK (T : Tt) (B : List Nat) (b : Nat) (ρ Z : List Addr) (H : Hp) (W : WX) (σ : L2.St) {β : Type} (C : R β → Prop) : Prop where
  bad : ¬ C .bad
  exc : ∀ fr c as h', C (.exc fr c as h') → (T.m = true → fr = true) ∧ ∀ ρ' H' cls d, Nxt T.cA T.K B b ρ Z H ρ' h' H' → excR T c as cls d H' → W cls d σ H'
theorem CK.post {Q : VK} : CK T B b ρ Z H W σ (fun r => Mn.post T B b ρ Z H W σ r Q) := ⟨fun z => z, fun fr c as h' p => p⟩
theorem CK.postT {Q : Bool → Hp → Prop} : CK T B b ρ Z H W σ (fun r => Mn.postT T B b ρ Z H W σ r Q) := ⟨fun z => z, fun fr c as h' p => p⟩
theorem CK.postA {Q : List V → Hp → Prop} : CK T B b ρ Z H W σ (fun r => Mn.postA T B b ρ Z H W σ r Q) := ⟨fun z => z, fun fr c as h' p => p⟩
theorem CK.shift {β : Type} {C : R β → Prop} {ρ1 : List Addr} {H1 : Hp} {h1 : AH} (ck : CK T B b ρ Z H W σ C) (n : Nxt T.cA T.K B b ρ Z H ρ1 h1 H1) : CK T B b ρ1 Z H1 W σ C :=
  ⟨ck.bad, fun fr c as h' p => ⟨(ck.exc fr c as h' p).1, fun ρ' H' cls d n' x => (ck.exc fr c as h' p).2 ρ' H' cls d (n.trans n') x⟩⟩
theorem post.go {β : Type} {r : R PV} {f : PV → AH → R β} {C : R β → Prop} {Q : VK} (ck : CK T B b ρ Z H W σ C) (p : C (r.bind f))
    (g : ∀ ρ1 H1 v w h1, Nxt T.cA T.K B b ρ Z H ρ1 h1 H1 → rep T.cA T.K ρ1 Z H1 v w → C (f v h1) → Q w H1) : post T B b ρ Z H W σ r Q := by
  cases r with
  | ok v h' => exact fun ρ' H' w n r => g ρ' H' v w h' n r p
  | exc fr c as h' => exact ck.exc fr c as h' p
  | bad => exact ck.bad p
theorem postT.go {β : Type} {r : R Bool} {f : Bool → AH → R β} {C : R β → Prop} {Q : Bool → Hp → Prop} (ck : CK T B b ρ Z H W σ C) (p : C (r.bind f))
    (g : ∀ ρ1 H1 v h1, Nxt T.cA T.K B b ρ Z H ρ1 h1 H1 → C (f v h1) → Q v H1) : postT T B b ρ Z H W σ r Q := by
  cases r with
  | ok v h' => exact fun ρ' H' n => g ρ' H' v h' n p
  | exc fr c as h' => exact ck.exc fr c as h' p
  | bad => exact ck.bad p
theorem postA.go {β : Type} {r : R (List PV)} {f : List PV → AH → R β} {C : R β → Prop} {Q : List V → Hp → Prop} (ck : CK T B b ρ Z H W σ C) (p : C (r.bind f))
    (g : ∀ ρ1 H1 v w h1, Nxt T.cA T.K B b ρ Z H ρ1 h1 H1 → repL T.cA T.K ρ1 Z H1 v w → C (f v h1) → Q w H1) : postA T B b ρ Z H W σ r Q := by
  cases r with
  | ok v h' => exact fun ρ' H' w n r => g ρ' H' v w h' n r p
  | exc fr c as h' => exact ck.exc fr c as h' p
  | bad => exact ck.bad p
end
/-- an expression's reading by its answer -/
def tE (T : Tt) (W : WX) (d : Dn PV) : TE := fun σ H Q => ∃ B b ρ Z h env, Good T.cA T.K B b ρ Z h H ∧ envR T ρ Z H env σ ∧ post T B b ρ Z H W σ (d env b h) Q
def tT (T : Tt) (W : WX) (d : Dn Bool) : TT := fun σ H Q => ∃ B b ρ Z h env, Good T.cA T.K B b ρ Z h H ∧ envR T ρ Z H env σ ∧ postT T B b ρ Z H W σ (d env b h) Q
def tA (T : Tt) (W : WX) (d : Dn (List PV)) : TA := fun σ H Q => ∃ B b ρ Z h env, Good T.cA T.K B b ρ Z h H ∧ envR T ρ Z H env σ ∧ postA T B b ρ Z H W σ (d env b h) Q
def TakesT (T : Tt) (X : Cx) (W : WX) : Prop := if T.m = true then L2N.Takes X W else L2.Takes X W
def SE (T : Tt) (k : Nat) (N : List Str) (sc : Scope) (e : Expr) (d : Dn PV) : Prop := ∀ X W, CxOk T k N sc X → TakesT T X W → PE X e (tE T W d)
def ST (T : Tt) (k : Nat) (N : List Str) (sc : Scope) (e : Expr) (d : Dn Bool) : Prop := ∀ X W, CxOk T k N sc X → TakesT T X W → PT X e (tT T W d)
def SA (T : Tt) (k : Nat) (N : List Str) (sc : Scope) (es : List Expr) (d : Dn (List PV)) : Prop := ∀ X W, CxOk T k N sc X → TakesT T X W → PA X es (tA T W d)
theorem PEimp {X : Cx} {e : Expr} {t t' : TE} (p : PE X e t) (h : ∀ σ H Q, t' σ H Q → t σ H Q) : PE X e t' := ⟨fun pins s σ H Q I q => p.run pins s σ H Q I (h σ H Q q)⟩
theorem PTimp {X : Cx} {e : Expr} {t t' : TT} (p : PT X e t) (h : ∀ σ H Q, t' σ H Q → t σ H Q) : PT X e t' := ⟨fun pins s σ H Q I q => p.run pins s σ H Q I (h σ H Q q)⟩
theorem PAimp {X : Cx} {es : List Expr} {t t' : TA} (p : PA X es t) (h : ∀ σ H Q, t' σ H Q → t σ H Q) : PA X es t' := ⟨fun pos pins s σ H Q I q => p.run pos pins s σ H Q I (h σ H Q q)⟩

/-! ## what an operation by values asks -/
/-- nothing raises -/
def post0 (T : Tt) (B : List Nat) (b : Nat) (ρ Z : List Addr) (H : Hp) (r : R PV) (Q : VK) : Prop := match r with
  | .ok v h' => ∀ ρ' H' w, Nxt T.cA T.K B b ρ Z H ρ' h' H' → rep T.cA T.K ρ' Z H' v w → Q w H'
  | _ => False
def Op2 (T : Tt) (r : R2) (f : PV → PV → Nat → AH → R PV) : Prop :=
  ∀ B b ρ Z h H x y v w Q, Good T.cA T.K B b ρ Z h H → rep T.cA T.K ρ Z H x v → rep T.cA T.K ρ Z H y w → post0 T B b ρ Z H (f x y b h) Q → r v w H Q
def OpL (T : Tt) (r : List V → Hp → VK → Prop) (f : List PV → Nat → AH → R PV) : Prop :=
  ∀ B b ρ Z h H vs ws Q, Good T.cA T.K B b ρ Z h H → repL T.cA T.K ρ Z H vs ws → post0 T B b ρ Z H (f vs b h) Q → r ws H Q
def noExc (r : R PV) : R PV := match r with
  | .ok v h => .ok v h
  | _ => .bad
section
variable {T : Tt} {B : List Nat} {b : Nat} {ρ Z : List Addr} {h : AH} {H : Hp} {W : WX} {σ : L2.St} {Q : VK}
theorem post.to0 {r : R PV} (p : post T B b ρ Z H W σ (noExc r) Q) : post0 T B b ρ Z H r Q := by
  cases r with
  | ok v h' => exact p
  | exc => exact p
  | bad => exact p
theorem post0.shift {ρ1 : List Addr} {H1 : Hp} {h1 : AH} {r : R PV} (n : Nxt T.cA T.K B b ρ Z H ρ1 h1 H1) (p : post0 T B b ρ Z H r Q) : post0 T B b ρ1 Z H1 r Q := by
  cases r with
  | ok v h' => exact fun ρ' H' w n' => p ρ' H' w (n.trans n')
  | exc => exact p
  | bad => exact p
end
/-! ## names and constants -/
section
variable {T : Tt} {k : Nat} {N : List Str} {sc : Scope}
def dVar (i : Nat) : Dn PV := fun env _ h => match env[i]? with
  | some (some v) => .ok v h
  | _ => .bad
def dC (v : PV) : Dn PV := fun _ _ h => .ok v h
theorem se_var {i : Nat} {x : Str} {pos : Pos} (hi : N[i]? = some x) (hv : visB sc x = true) (hd : (x == ("__debug__" : Str)) = false) (hcd : (x == ("__classdict__" : Str)) = false) : SE T k N sc (.Name x pos) (dVar i) := by
  intro X W c tk
  refine PEimp (pe_var (i := i) (by rw [c.hN]; exact hi) (c.vis x hv) hd hcd) fun σ H Q ⟨B, b, ρ, Z, h, env, G, er, p⟩ => ?_
  unfold dVar at p
  split at p
  · rename_i v e
    obtain ⟨w, e1, r1⟩ := er.2 i v e
    exact ⟨w, e1, p ρ H w G.nxt r1⟩
  · exact p.elim
theorem se_int {i : Int} {j : Nat} {pos : Pos} : SE T k N sc (.Constant (.int i) j pos) (dC (.int i)) := fun X W c tk =>
  PEimp pe_int fun σ H Q ⟨B, b, ρ, Z, h, env, G, er, p⟩ => p ρ H (.int i) G.nxt (by unfold rep; rfl)
theorem se_bl {i : Bool} {j : Nat} {pos : Pos} : SE T k N sc (.Constant (.bool i) j pos) (dC (.bl i)) := fun X W c tk =>
  PEimp pe_bl fun σ H Q ⟨B, b, ρ, Z, h, env, G, er, p⟩ => p ρ H (.bl i) G.nxt (by unfold rep; rfl)
theorem se_non {j : Nat} {pos : Pos} : SE T k N sc (.Constant .none j pos) (dC .non) := fun X W c tk =>
  PEimp pe_non fun σ H Q ⟨B, b, ρ, Z, h, env, G, er, p⟩ => p ρ H .non G.nxt (by unfold rep; rfl)
theorem se_str {i : Str} {j : Nat} {pos : Pos} : SE T k N sc (.Constant (.str i) j pos) (dC (.str i)) := fun X W c tk =>
  PEimp pe_str fun σ H Q ⟨B, b, ρ, Z, h, env, G, er, p⟩ => p ρ H (.str i) G.nxt (by unfold rep; rfl)
/-- a module's constant -/
def ConOk (T : Tt) (x : Str) (v : PV) : Prop := ∃ (w : V) (u : Value), T.mg x = some u ∧ RelV w u ∧ ∀ ρ Z H, rep T.cA T.K ρ Z H v w
theorem se_con {x : Str} {v : PV} {pos : Pos} (hg : glB sc x = true) (hc : ConOk T x v) (hd : (x == ("__debug__" : Str)) = false) : SE T k N sc (.Name x pos) (dC v) := fun X W c tk => by
  obtain ⟨w, u, e, r, q⟩ := hc
  refine PEimp (pe_glob (v := w) (u := u) (c.gl x hg) (by rw [c.hmg]; exact e) r hd) fun σ H Q ⟨B, b, ρ, Z, h, env, G, er, p⟩ => p ρ H w G.nxt (q ρ Z H)

/-! ## argument lists, displays -/
def dNil : Dn (List PV) := fun _ _ h => .ok [] h
def dCons (d : Dn PV) (ds : Dn (List PV)) : Dn (List PV) := fun env b h => (d env b h).bind fun x h1 => (ds env b h1).bind fun xs h2 => .ok (x :: xs) h2
def notStar : Expr → Bool
  | .Starred .. => false
  | _ => true
theorem starEach_cons {e : Expr} {es : List Expr} {env : Env} (h : notStar e = true) : starEach (e :: es) env = (false, eval e env) :: starEach es env := by
  cases e <;> first | rfl | cases h
theorem sa_nil : SA T k N sc [] dNil := fun X W c tk => PAimp pa_nil fun σ H Q ⟨B, b, ρ, Z, h, env, G, er, p⟩ => p ρ H [] G.nxt .nil
theorem sa_cons {e : Expr} {es : List Expr} {d : Dn PV} {ds : Dn (List PV)} (ns : notStar e = true) (he : SE T k N sc e d) (hs : SA T k N sc es ds) : SA T k N sc (e :: es) (dCons d ds) := by
  intro X W c tk
  refine PAimp (pa_cons (he X W c tk) (hs X W c tk) (starEach_cons ns)) fun σ H Q ⟨B, b, ρ, Z, h, env, G, er, p⟩ => ?_
  exact ⟨B, b, ρ, Z, h, env, G, er, post.go .postA p fun ρ1 H1 v w h1 n rv q => ⟨B, b, ρ1, Z, h1, env, n.good, er.step n G,
    postA.go (CK.postA.shift n) q fun ρ2 H2 vs ws h2 n2 rs q2 => q2 ρ2 H2 (w :: ws) (n.trans n2) (repL_cons.mpr ⟨n2.rep n.good rv, rs⟩)⟩⟩
end
end Mn
end
section
set_option Elab.async false
set_option linter.all false
set_option maxRecDepth 100000
namespace Mn
open PySem PySem.Spec L2

/-! ## the heap's moves -/
section
variable {cA : Str → Addr} {K : PySem.W.Frag} {B : List Nat} {b : Nat} {ρ Z : List Addr} {h : AH} {H : Hp} {p : Addr}
theorem Good.newR (G : Good cA K B b ρ Z h H) (hp : H p = none) : p ∉ ρ := fun z => G.there z hp
theorem Good.newZ (G : Good cA K B b ρ Z h H) (hp : H p = none) : p ∉ Z := fun z => G.zt p z hp
theorem Good.still (G : Good cA K B b ρ Z h H) (hp : H p = none) : Still ρ Z p := ⟨G.newR hp, G.newZ hp⟩
theorem upd_none {H : Hp} {p a : Addr} {o : HO} (h : upd H p o a = none) : H a = none := by
  by_cases e : a = p
  · subst e; rw [upd_same] at h; cases h
  · rw [upd_ne e] at h; exact h
theorem upd_there {H : Hp} {p a : Addr} {o : HO} (h : H a ≠ none) : upd H p o a ≠ none := fun z => h (upd_none z)
theorem step_new {o : HO} (hp : H p = none) : Step ρ Z H ρ (upd H p o) :=
  ⟨⟨[], by simp, by simp⟩, fun a u e _ => by rw [upd_ne (ne_of_none e hp)]; exact e, fun a => upd_there⟩
theorem step_write {o : HO} {a : Addr} (ha : a ∈ ρ) : Step ρ Z H ρ (upd H a o) :=
  ⟨⟨[], by simp, by simp⟩, fun c u e hc => by rw [upd_ne (fun z => hc (by rw [z]; exact ha))]; exact e, fun a => upd_there⟩
theorem step_push {o : HO} (hp : H p = none) (hz : p ∉ Z) : Step ρ Z H (ρ ++ [p]) (upd H p o) :=
  ⟨⟨[p], rfl, fun a ha => by simp at ha; subst ha; exact ⟨hp, hz⟩⟩, fun a u e _ => by rw [upd_ne (ne_of_none e hp)]; exact e, fun a => upd_there⟩
theorem objR_step {ρ' : List Addr} {H' : Hp} (s : Step ρ Z H ρ' H') (wr : Written ρ H) {a : Addr} (ha : H' a = H a) : ∀ {o : AO}, objR cA K ρ Z H a o → objR cA K ρ' Z H' a o
  | .lst xs, ⟨vs, e, hz, r⟩ => ⟨vs, by rw [ha]; exact e, hz, repL_step s wr r⟩
  | .dic ks xs, ⟨vs, e, l, r⟩ => ⟨vs, by rw [ha]; exact e, l, repL_step s wr r⟩
  | .ins c fs xs, ⟨dx, vs, e, l, r⟩ => ⟨dx, vs, by rw [ha]; exact e, l, repL_step s wr r⟩
/-- a new thing that nobody writes -/
theorem Good.new {o : HO} (G : Good cA K B b ρ Z h H) (hp : H p = none) : Nxt cA K B b ρ Z H ρ h (upd H p o) := by
  have s : Step ρ Z H ρ (upd H p o) := step_new hp
  refine ⟨⟨G.len, G.nd, fun n a ao e1 e2 => ?_, G.base, G.bs, G.cl, G.dis, fun a ha => upd_there (G.zt a ha)⟩, s⟩
  exact objR_step s G.written (upd_ne fun z => G.newR hp (z ▸ List.mem_of_getElem? e1)) (G.obj n a ao e1 e2)
/-- a new thing that will be written -/
theorem Good.push {o : HO} {ao : AO} (G : Good cA K B b ρ Z h H) (hp : H p = none) (hr : objR cA K (ρ ++ [p]) Z (upd H p o) p ao) : Nxt cA K B b ρ Z H (ρ ++ [p]) (h ++ [ao]) (upd H p o) := by
  have s : Step ρ Z H (ρ ++ [p]) (upd H p o) := step_push hp (G.newZ hp)
  refine ⟨⟨by simp [G.len], ?_, fun n a ao' e1 e2 => ?_, by have := G.base; simp; omega, G.bs, fun c hc n ao' hn e => ?_, fun a ha => ?_, fun a ha => upd_there (G.zt a ha)⟩, s⟩
  · rw [List.nodup_append]
    exact ⟨G.nd, by simp, fun a ha c hc => by simp at hc; subst hc; exact fun z => G.newR hp (z ▸ ha)⟩
  · by_cases hn : n < ρ.length
    · rw [List.getElem?_append_left hn] at e1
      rw [List.getElem?_append_left (by rw [← G.len]; exact hn)] at e2
      exact objR_step s G.written (upd_ne fun z => G.newR hp (z ▸ List.mem_of_getElem? e1)) (G.obj n a ao' e1 e2)
    · have hn' : n < (ρ ++ [p]).length := (List.getElem?_eq_some_iff.mp e1).1
      have hn2 : n = ρ.length := by simp at hn'; omega
      subst hn2
      rw [List.getElem?_append_right (Nat.le_refl _)] at e1
      rw [G.len, List.getElem?_append_right (Nat.le_refl _)] at e2
      simp at e1 e2
      subst e1; subst e2
      exact hr
  · have hb := G.bs c hc
    have hl := G.base
    rw [List.getElem?_append_left (by omega)] at e
    exact G.cl c hc n ao' hn e
  · rcases List.mem_append.mp ha with z | z
    · exact G.dis a z
    · simp at z; subst z; exact G.newZ hp
/-- a written place is written -/
theorem Good.write {o : HO} {ao ao0 : AO} {n : Nat} {a : Addr} (G : Good cA K B b ρ Z h H) (ea : ρ[n]? = some a) (e0 : h[n]? = some ao0) (hr : objR cA K ρ Z (upd H a o) a ao) (hc : ∀ c ∈ B, n < c → ao.low c = true) :
    Nxt cA K B b ρ Z H ρ (h.set n ao) (upd H a o) := by
  have s : Step ρ Z H ρ (upd H a o) := step_write (List.mem_of_getElem? ea)
  refine ⟨⟨by simp [G.len], G.nd, fun m a' ao' e1 e2 => ?_, by simp; exact G.base, G.bs, fun c hc' m ao' hm e => ?_, G.dis, fun a ha => upd_there (G.zt a ha)⟩, s⟩
  · by_cases hm : m = n
    · subst hm
      rw [ea] at e1; cases e1
      rw [List.getElem?_set_self (by exact (List.getElem?_eq_some_iff.mp e0).1)] at e2
      cases e2
      exact hr
    · rw [List.getElem?_set_ne (Ne.symm hm)] at e2
      have na : a' ≠ a := fun z => by
        subst z
        have h1 := (List.getElem?_eq_some_iff.mp e1)
        have h2 := (List.getElem?_eq_some_iff.mp ea)
        exact hm ((List.getElem_inj G.nd).mp (h1.2.trans h2.2.symm))
      exact objR_step s G.written (upd_ne na) (G.obj m a' ao' e1 e2)
  · by_cases hmn : m = n
    · subst hmn
      rw [List.getElem?_set_self (by exact (List.getElem?_eq_some_iff.mp e0).1)] at e
      cases e
      exact hc c hc' hm
    · rw [List.getElem?_set_ne (Ne.symm hmn)] at e
      exact G.cl c hc' m ao' hm e
end

/-! ## a new list, frozen or to be written -/
def mkL (m : Bool) (xs : List PV) (h : AH) : R PV := if m then .ok (.ref h.length) (h ++ [.lst xs]) else .ok (.lst xs) h
section
variable {T : Tt} {B : List Nat} {b : Nat} {ρ Z : List Addr} {h : AH} {H : Hp} {Q : VK} {p : Addr}
theorem low_of_le {xs : List PV} {b c : Nat} (hbc : b ≤ c) (h : PV.lowL b xs = true) : PV.lowL c xs = true := PV.lowL_iff.mpr fun x hx => PV.low_mono hbc x (PV.lowL_iff.mp h x hx)
theorem mkL_ok {m : Bool} {xs : List PV} {vs : List V} (hz : xs.length ≤ sizeLine) (G : Good T.cA T.K B b ρ Z h H) (hp : H p = none) (r : repL T.cA T.K ρ Z H xs vs) (q : post0 T B b ρ Z H (mkL m xs h) Q) : Q (.ref p) (upd H p (.lst vs)) := by
  unfold mkL at q
  cases m with
  | false =>
    have n := G.new (o := .lst vs) hp
    refine q ρ _ (.ref p) n ?_
    unfold rep
    exact ⟨p, vs, rfl, upd_same, G.still hp, hz, n.repL G r⟩
  | true =>
    have s : Step ρ Z H (ρ ++ [p]) (upd H p (.lst vs)) := step_push hp (G.newZ hp)
    have n := G.push (o := .lst vs) (ao := .lst xs) hp ⟨vs, upd_same, hz, repL_step s G.written r⟩
    refine q (ρ ++ [p]) _ (.ref p) n ?_
    unfold rep
    exact ⟨p, rfl, by rw [← G.len]; simp⟩
theorem mkT_ok {xs : List PV} {vs : List V} (hz : xs.length ≤ sizeLine) (G : Good T.cA T.K B b ρ Z h H) (hp : H p = none) (r : repL T.cA T.K ρ Z H xs vs) (q : post0 T B b ρ Z H (.ok (.tup xs) h) Q) : Q (.ref p) (upd H p (.tup vs)) := by
  have n := G.new (o := .tup vs) hp
  refine q ρ _ (.ref p) n ?_
  unfold rep
  exact ⟨p, vs, rfl, .inl (.inl upd_same), hz, n.repL G r⟩
end

/-! ## generic wrappers -/
theorem starEach_plain : ∀ {es : List Expr} {env : Env}, es.all notStar = true → ∀ p ∈ starEach es env, p.1 = false
  | [], _, _, _, hp => by cases hp
  | e :: es, env, h, p, hp => by
    simp only [List.all_cons, Bool.and_eq_true] at h
    rw [starEach_cons h.1] at hp
    rcases List.mem_cons.mp hp with z | z
    · rw [z]
    · exact starEach_plain h.2 p z
theorem backTo_plain {es : List Expr} {env : Env} {pos : Pos} (h : es.all notStar = true) : (backTo pos (starEach es env)).any (·.1) = false := by
  rw [List.any_eq_false]
  intro p hp
  unfold backTo at hp
  obtain ⟨q, hq, rfl⟩ := List.mem_map.mp hp
  simp [starEach_plain h q hq]

def szOk (n : Nat) : Bool := Nat.ble n 16777216
theorem szOk_iff {n : Nat} : szOk n = true ↔ n ≤ sizeLine := by unfold szOk; rw [Nat.ble_eq, sizeLine_eq]
section
variable {T : Tt} {k : Nat} {N : List Str} {sc : Scope}
def dTup (ds : Dn (List PV)) : Dn PV := fun env b h => (ds env b h).bind fun xs h1 => if szOk xs.length then .ok (.tup xs) h1 else .bad
def dLst (m : Bool) (ds : Dn (List PV)) : Dn PV := fun env b h => (ds env b h).bind fun xs h1 => if szOk xs.length then mkL m xs h1 else .bad
def dOp2 (f : PV → PV → Nat → AH → R PV) (da db : Dn PV) : Dn PV := fun env b h => (da env b h).bind fun x h1 => (db env b h1).bind fun y h2 => noExc (f x y b h2)
def dOpL (f : List PV → Nat → AH → R PV) (ds : Dn (List PV)) : Dn PV := fun env b h => (ds env b h).bind fun xs h1 => noExc (f xs b h1)
theorem mkL_noExc {m : Bool} {xs : List PV} {h : AH} : noExc (mkL m xs h) = mkL m xs h := by unfold mkL; split <;> rfl
theorem se_tup {es : List Expr} {ds : Dn (List PV)} {x1 : Nat} {pos : Pos} (hs : SA T k N sc es ds) : SE T k N sc (.Tuple es x1 pos) (dTup ds) := fun X W c tk =>
  PEimp (pe_tup (hs X W c tk)) fun σ H Q ⟨B, b, ρ, Z, h, env, G, er, p⟩ => ⟨B, b, ρ, Z, h, env, G, er, postA.go .post p fun ρ1 H1 vs ws h1 n rs q => by
    split at q
    · rename_i hz
      exact ⟨by rw [← rs.length]; exact szOk_iff.mp hz, fun p hp => mkT_ok (szOk_iff.mp hz) n.good hp rs (q.shift n)⟩
    · exact q.elim⟩
theorem se_lst {m : Bool} {es : List Expr} {ds : Dn (List PV)} {pos : Pos} (hs : SA T k N sc es ds) : SE T k N sc (.List es pos) (dLst m ds) := fun X W c tk =>
  PEimp (pe_lst (hs X W c tk)) fun σ H Q ⟨B, b, ρ, Z, h, env, G, er, p⟩ => ⟨B, b, ρ, Z, h, env, G, er, postA.go .post p fun ρ1 H1 vs ws h1 n rs q => by
    split at q
    · rename_i hz
      rw [← mkL_noExc] at q
      exact ⟨by rw [← rs.length]; exact szOk_iff.mp hz, fun p hp => mkL_ok (szOk_iff.mp hz) n.good hp rs (by have q := (q.shift n).to0; exact q)⟩
    · exact q.elim⟩
/-- a binary operator by its rule -/
theorem se_op2 {op : Operator} {r : R2} {f : PV → PV → Nat → AH → R PV} {a e : Expr} {da de : Dn PV} {pos : Pos} (ho : ∀ X, CxOk T k N sc X → OpR X (binaryOp op) r) (hf : Op2 T r f) (ha : SE T k N sc a da) (he : SE T k N sc e de) :
    SE T k N sc (.BinOp a op e pos) (dOp2 f da de) := fun X W c tk =>
  PEimp (pe_op (ho X c) (ha X W c tk) (he X W c tk)) fun σ H Q ⟨B, b, ρ, Z, h, env, G, er, p⟩ => ⟨B, b, ρ, Z, h, env, G, er, post.go .post p fun ρ1 H1 v w h1 n rv q =>
    ⟨B, b, ρ1, Z, h1, env, n.good, er.step n G, post.go (CK.post.shift n) q fun ρ2 H2 v2 w2 h2 n2 rv2 q2 =>
      hf B b ρ2 Z h2 H2 v v2 w w2 Q n2.good (n2.rep n.good rv) rv2 ((q2.shift (n.trans n2)).to0)⟩⟩
theorem se_cmp {op : CmpOp} {r : R2} {f : PV → PV → Nat → AH → R PV} {a e : Expr} {da de : Dn PV} {pos : Pos} (ho : ∀ X, CxOk T k N sc X → OpR X (compareOp op) r) (hf : Op2 T r f) (ha : SE T k N sc a da) (he : SE T k N sc e de) (hm : behindInMarks op e = false) :
    SE T k N sc (.Compare a [op] [e] pos) (dOp2 f da de) := fun X W c tk =>
  PEimp (pe_cmpR (ho X c) (ha X W c tk) (he X W c tk) hm) fun σ H Q ⟨B, b, ρ, Z, h, env, G, er, p⟩ => ⟨B, b, ρ, Z, h, env, G, er, post.go .post p fun ρ1 H1 v w h1 n rv q =>
    ⟨B, b, ρ1, Z, h1, env, n.good, er.step n G, post.go (CK.post.shift n) q fun ρ2 H2 v2 w2 h2 n2 rv2 q2 =>
      hf B b ρ2 Z h2 H2 v v2 w w2 Q n2.good (n2.rep n.good rv) rv2 ((q2.shift (n.trans n2)).to0)⟩⟩
/-- a subscript -/
theorem se_ix {r : R2} {f : PV → PV → Nat → AH → R PV} {a e : Expr} {da de : Dn PV} {pos : Pos} (ho : ∀ X, CxOk T k N sc X → IxR X r) (hf : Op2 T r f) (ha : SE T k N sc a da) (he : SE T k N sc e de) (hs : PlainIx e) :
    SE T k N sc (.Subscript a e pos) (dOp2 f da de) := fun X W c tk =>
  PEimp (pe_ix (ho X c) (ha X W c tk) (he X W c tk) hs) fun σ H Q ⟨B, b, ρ, Z, h, env, G, er, p⟩ => ⟨B, b, ρ, Z, h, env, G, er, post.go .post p fun ρ1 H1 v w h1 n rv q =>
    ⟨B, b, ρ1, Z, h1, env, n.good, er.step n G, post.go (CK.post.shift n) q fun ρ2 H2 v2 w2 h2 n2 rv2 q2 =>
      hf B b ρ2 Z h2 H2 v v2 w w2 Q n2.good (n2.rep n.good rv) rv2 ((q2.shift (n.trans n2)).to0)⟩⟩
/-- a built-in function called by its name; a built-in class -/
theorem se_bi {x : Str} {id : String} {r : List V → Hp → VK → Prop} {f : List PV → Nat → AH → R PV} {e : Expr} {es : List Expr} {ds : Dn (List PV)} {p pos : Pos} (hc : ∀ X, CxOk T k N sc X → CallR X (.builtin id) r) (hf : OpL T r f)
    (hg : glB sc x = true) (hm : T.mg x = none) (hv : bootBuiltins x = some (.builtin id)) (ha : SA T k N sc (e :: es) ds) (hn : x ≠ "__name__") (hdb : (x == ("__debug__" : Str)) = false)
    (ns : notStar e = true) (nss : es.all notStar = true) : SE T k N sc (.Call (.Name x p) (e :: es) [] pos) (dOpL f ds) := fun X W c tk =>
  PEimp (pe_callB (hc X c) (c.gl x hg) (by rw [c.hmg]; exact hm) hv (ha X W c tk) hn hdb (starEach_cons ns) (backTo_plain nss)) fun σ H Q ⟨B, b, ρ, Z, h, env, G, er, p⟩ => ⟨B, b, ρ, Z, h, env, G, er, postA.go .post p fun ρ1 H1 vs ws h1 n rs q =>
    hf B b ρ1 Z h1 H1 vs ws Q n.good rs ((q.shift n).to0)⟩
end
end Mn
end
section
set_option Elab.async false
set_option linter.all false
set_option maxRecDepth 100000
namespace Mn
open PySem PySem.Spec L2

/-! ## calls -/
abbrev Fn := List PV → Nat → AH → R PV
def CXT' (T : Tt) : CXT := if T.m = true then L2N.CX T.P T.w else L2.CX T.P T.w
/-- a def's promise by its answer -/
def spF (T : Tt) (np : Nat) (f : Fn) : Sp := fun vs H Q E => vs.length = np ∧ ∃ B b ρ Z h args, Good T.cA T.K B b ρ Z h H ∧ repL T.cA T.K ρ Z H args vs ∧
  match f args b h with
  | .ok v h' => ∀ ρ' H' w, Nxt T.cA T.K B b ρ Z H ρ' h' H' → rep T.cA T.K ρ' Z H' v w → Q w H'
  | .exc fr c as h' => (T.m = true → fr = true) ∧ ∀ ρ' H' cls d, Nxt T.cA T.K B b ρ Z H ρ' h' H' → excR T c as cls d H' → E cls d H'
  | .bad => False
/-- what is known of a def at an address, called with dfl filled up behind -/
structure FnF (T : Tt) (k : Nat) (f : Addr) (np : Nat) (fn : Fn) (dfl : List PV) : Prop where
  ex : ∃ (k' : Nat) (fd : FuncData) (ps : List Str) (ds : List Value) (dvs : List V), k' ≤ k ∧ ps.length = np ∧ FnOk T.P T.w T.K T.mg T.base (CXT' T) k' f fd ps (spF T np fn) ∧ Binds T.K fd ps ds ∧ Vals dvs ds ∧
    (∀ ρ Z H, repL T.cA T.K ρ Z H dfl dvs) ∧ PySem.W.keepIn T.K (.ref f) = true
section
variable {T : Tt} {k : Nat} {N : List Str} {sc : Scope} {X : Cx} {W : WX}
theorem passT (c : CxOk T k N sc X) (tk : TakesT T X W) (σ : L2.St) : PassesAt (CXT' T) X σ (WE W σ) := by
  unfold CXT'
  unfold TakesT at tk
  rw [← c.hP, ← c.hw]
  cases e : T.m with
  | true => rw [e] at tk; exact L2N.passAt tk σ
  | false => rw [e] at tk; exact L2.passAt tk σ
/-- the answer of a call as the promise has it -/
theorem post_spF {B : List Nat} {b : Nat} {ρ Z : List Addr} {h : AH} {H : Hp} {σ : L2.St} {Q : VK} {np : Nat} {f : Fn} {args : List PV} {vs : List V} (G : Good T.cA T.K B b ρ Z h H) (r : repL T.cA T.K ρ Z H args vs)
    (hl : vs.length = np) (p : post T B b ρ Z H W σ (f args b h) Q) : spF T np f vs H Q (WE W σ) := by
  refine ⟨hl, B, b, ρ, Z, h, args, G, r, ?_⟩
  revert p
  cases f args b h with
  | ok v h' => exact fun p => p
  | exc fr c as h' => exact fun p => p
  | bad => exact fun p => p
def dCall (fn : Fn) (np : Nat) (dfl : List PV) (ds : Dn (List PV)) : Dn PV := fun env b h => (ds env b h).bind fun xs h1 => if (xs.length + dfl.length) = np then fn (xs ++ dfl) b h1 else .bad
theorem se_call {x : Str} {f : Addr} {np : Nat} {fn : Fn} {dfl : List PV} {e : Expr} {es : List Expr} {ds : Dn (List PV)} {p pos : Pos} (F : FnF T k f np fn dfl) (hg : glB sc x = true) (hm : T.mg x = some (.ref f)) (hdb : (x == ("__debug__" : Str)) = false)
    (ha : SA T k N sc (e :: es) ds) (ns : notStar e = true) (nss : es.all notStar = true) : SE T k N sc (.Call (.Name x p) (e :: es) [] pos) (dCall fn np dfl ds) := fun X W c tk => by
  obtain ⟨k', fd, ps, dsv, dvs, hk, hps, G, hb, hd, rd, kp⟩ := F.ex
  have G' : FnOk X.prog X.w X.K X.mg X.base (CXT' T) k' f fd ps (spF T np fn) := by rw [c.hP, c.hw, c.hK, c.hmg, c.hb]; exact G
  refine PEimp (pe_callSD (E := fun σ => WE W σ) G' (c.room.mono hk) (c.gl x hg) (by rw [c.hmg]; exact hm) (by rw [c.hK]; exact kp) (by rw [c.hK]; exact hb) hd (passT c tk) (ha X W c tk) hdb (starEach_cons ns) (backTo_plain nss))
    fun σ H Q ⟨B, b, ρ, Z, h, env, G, er, p⟩ => ⟨B, b, ρ, Z, h, env, G, er, postA.go .post p fun ρ1 H1 vs ws h1 n rs q => ?_⟩
  split at q
  · rename_i hl
    have rl := rs.append (rd ρ1 Z H1)
    exact post_spF n.good rl (by rw [← rl.length, List.length_append]; exact hl) (q.shift n)
  · exact q.elim
theorem se_call0 {x : Str} {f : Addr} {np : Nat} {fn : Fn} {dfl : List PV} {p pos : Pos} (F : FnF T k f np fn dfl) (hg : glB sc x = true) (hm : T.mg x = some (.ref f)) (hdb : (x == ("__debug__" : Str)) = false) :
    SE T k N sc (.Call (.Name x p) [] [] pos) (dCall fn np dfl dNil) := fun X W c tk => by
  obtain ⟨k', fd, ps, dsv, dvs, hk, hps, G, hb, hd, rd, kp⟩ := F.ex
  have G' : FnOk X.prog X.w X.K X.mg X.base (CXT' T) k' f fd ps (spF T np fn) := by rw [c.hP, c.hw, c.hK, c.hmg, c.hb]; exact G
  refine ⟨fun pins s σ H Q I ⟨B, b, ρ, Z, h, env, G, er, p⟩ => ?_⟩
  refine wpAny_Call_Name_kw (ld_glob I (c.gl x hg) (by rw [c.hmg]; exact hm) ?_ hdb)
  refine PySem.W.callWith_K0 I.kIn (by rw [c.hK]; exact kp) (run_fnSD (us := []) (vs := []) (E := fun σ => WE W σ) G' (c.room.mono hk) (by rw [c.hK]; exact hb) hd (passT c tk σ) I .nil ?_)
  simp only [dCall, dNil, R.bind_ok] at p
  split at p
  · rename_i hl
    exact post_spF G (rd ρ Z H) (by have := (rd ρ Z H).length; simp at hl ⊢; omega) p
  · exact p.elim

/-! ## instances -/
/-- of which class a value is -/
def clsOf (h : AH) : PV → Option (Str × List Str × List PV)
  | .ins c fs vs => some (c, fs, vs)
  | .ref n => match h[n]? with
    | some (.ins c fs vs) => some (c, fs, vs)
    | _ => none
  | _ => none
theorem clsOf_rep {B : List Nat} {b : Nat} {ρ Z : List Addr} {h : AH} {H : Hp} (G : Good T.cA T.K B b ρ Z h H) {x : PV} {v : V} {c : Str} {fs : List Str} {vs : List PV} (r : rep T.cA T.K ρ Z H x v) (e : clsOf h x = some (c, fs, vs)) :
    ∃ a dx ws, v = .ref a ∧ H a = some (.ins (T.cA c) dx (fs.zip ws)) ∧ fs.length = ws.length ∧ repL T.cA T.K ρ Z H vs ws := by
  cases x with
  | ins c' fs' vs' =>
    simp only [clsOf, Option.some.injEq, Prod.mk.injEq] at e
    obtain ⟨rfl, rfl, rfl⟩ := e
    unfold rep at r
    obtain ⟨a, dx, ws, e, h1, hl, _, h2⟩ := r
    exact ⟨a, dx, ws, e, h1, hl, h2⟩
  | ref n =>
    simp only [clsOf] at e
    split at e
    · rename_i c' fs' vs' q
      simp only [Option.some.injEq, Prod.mk.injEq] at e
      obtain ⟨rfl, rfl, rfl⟩ := e
      unfold rep at r
      obtain ⟨a, ea, h1⟩ := r
      obtain ⟨dx, ws, h2, hl, h3⟩ := G.obj n a _ h1 q
      exact ⟨a, dx, ws, ea, h2, hl, h3⟩
    · cases e
  | _ => simp [clsOf] at e
/-- the value of a name in a row of names and values -/
def fldAt : List Str → List PV → Str → Option PV
  | f :: fs, v :: vs, x => if x = f then some v else fldAt fs vs x
  | _, _, _ => none
theorem fldAt_rep {ρ Z : List Addr} {H : Hp} {x : Str} : ∀ {fs : List Str} {vs : List PV} {ws : List V} {v : PV}, repL T.cA T.K ρ Z H vs ws → fldAt fs vs x = some v → ∃ w, (fs.zip ws).lookup x = some w ∧ rep T.cA T.K ρ Z H v w
  | [], _, _, _, _, e => by simp [fldAt] at e
  | _ :: _, [], _, _, _, e => by simp [fldAt] at e
  | f :: fs, y :: vs, ws, v, r, e => by
    unfold repL at r
    obtain ⟨w, ws', rfl, h1, h2⟩ := r
    simp only [fldAt] at e
    by_cases q : x = f
    · rw [if_pos q] at e
      cases e
      refine ⟨w, ?_, h1⟩
      simp [List.zip_cons_cons, List.lookup_cons, beq_iff_eq.mpr q]
    · rw [if_neg q] at e
      obtain ⟨w', e1, r1⟩ := fldAt_rep h2 e
      refine ⟨w', ?_, r1⟩
      have hb : (x == f) = false := beq_eq_false_iff_ne.mpr q
      simp only [List.zip_cons_cons, List.lookup_cons, hb]
      exact e1
theorem fldAt_none {x : Str} {α : Type} : ∀ {fs : List Str} {ws : List α}, x ∉ fs → (fs.zip ws).lookup x = none
  | [], _, _ => rfl
  | _ :: _, [], _ => rfl
  | f :: fs, w :: ws, h => by
    have hb : (x == f) = false := beq_eq_false_iff_ne.mpr fun z => h (by rw [z]; exact List.mem_cons_self)
    simp only [List.zip_cons_cons, List.lookup_cons, hb]
    exact fldAt_none fun z => h (List.mem_cons_of_mem _ z)
/-- what the text says of a class's attributes -/
def FldOk (T : Tt) (f : Str) (ok : Str → Bool) : Prop := ∀ c, ok c = true → Cls T.K (T.cA c) ∧ NoAttr T.K (T.cA c) f
def dAtt (f : Str) (ok : Str → Bool) (d : Dn PV) : Dn PV := fun env b h => (d env b h).bind fun x h1 => match clsOf h1 x with
  | some (c, fs, vs) => if ok c then (match fldAt fs vs f with | some v => .ok v h1 | none => .bad) else .bad
  | none => .bad
def notSuper : Expr → Bool
  | .Call (.Name ..) [] [] _ => false
  | _ => true
theorem attBase {e : Expr} {f : Str} {env : Env} (h : notSuper e = true) : attributeBase e f env (eval e env) = eval e env := by
  unfold attributeBase
  split
  · cases h
  · rfl
theorem se_att {e : Expr} {f : Str} {pos : Pos} {ok : Str → Bool} {d : Dn PV} (F : FldOk T f ok) (he : SE T k N sc e d) (hs : notSuper e = true) : SE T k N sc (.Attribute e f pos) (dAtt f ok d) := fun X W c tk =>
  PEimp (pe_fld (he X W c tk) (attBase hs)) fun σ H Q ⟨B, b, ρ, Z, h, env, G, er, p⟩ => ⟨B, b, ρ, Z, h, env, G, er, post.go .post p fun ρ1 H1 v w h1 n rv q => by
    split at q
    · rename_i cc fs vs e1
      split at q
      · rename_i hok
        split at q
        · rename_i y e2
          obtain ⟨a, dx, ws, ew, h2, hl, rl⟩ := clsOf_rep n.good rv e1
          obtain ⟨z, e3, rz⟩ := fldAt_rep rl e2
          refine ⟨a, _, dx, _, z, ew, h2, ?_, ?_, e3, q ρ1 H1 z n rz⟩
          · rw [c.hK]; exact (F cc hok).1
          · rw [c.hK]; exact (F cc hok).2
        · exact q.elim
      · exact q.elim
    · exact q.elim⟩
/-- what the text says of a method name: for each class of ok its def -/
structure MtF (T : Tt) (k : Nat) (m : Str) (tab : Str → Option (Nat × Fn)) : Prop where
  at_ : ∀ c np fn, tab c = some (np, fn) → ∃ f, Cls T.K (T.cA c) ∧ Meth T.K (T.cA c) m f ∧ FnF T k f np fn []
def dMeth (m : Str) (tab : Str → Option (Nat × Fn)) (d : Dn PV) (ds : Dn (List PV)) : Dn PV := fun env b h => (d env b h).bind fun x h1 => match clsOf h1 x with
  | some (c, fs, _) => if m ∈ fs then .bad else (match tab c with
    | some (np, fn) => (ds env b h1).bind fun xs h2 => if xs.length + 1 = np then fn (x :: xs) b h2 else .bad
    | none => .bad)
  | none => .bad
theorem met_eq {o : Expr} {m : Str} {apos pos : Pos} {args : List Expr} {env : Env} (hs : notSuper o = true) (hl : (apos.endLine == pos.line) = true) (hn : Nat.blt args.length 30 = true) (nss : args.all notStar = true) :
    eval (.Call (.Attribute o m apos) args [] pos) env = (do
      let ov ← eval o env
      standAt apos.atName
      let (f, first) ← holding [ov] (getMethod ov m (plainOf o env))
      callWith pos f first (backTo pos (starEach args env)) (backToKw pos (keywordEach [] env))) := by
  have e1 : methodCallForm (args.length + 0) (backTo pos (starEach args env)) (backToKw pos (keywordEach [] env)) = true := by
    unfold methodCallForm
    have q : (backTo pos (starEach args env)).all (fun x => !x.1) = true := by
      rw [List.all_eq_true]
      intro p hp
      have := List.any_eq_false.mp (backTo_plain (es := args) (env := env) (pos := pos) nss) p hp
      simpa using this
    have l : args.length < 30 := by simpa [Nat.blt_eq] using hn
    rw [q]
    simp [backToKw, keywordEach, l]
  show (do
    let ov ← attributeBase o m env (eval o env)
    standAt apos.atName
    methodCall o m apos pos env ov (args.length + 0) (backTo pos (starEach args env)) (backToKw pos (keywordEach [] env))) = _
  rw [attBase hs]
  have e2 : ∀ ov, methodCall o m apos pos env ov (args.length + 0) (backTo pos (starEach args env)) (backToKw pos (keywordEach [] env)) = (do
      let (f, first) ← holding [ov] (getMethod ov m (plainOf o env))
      callWith pos f first (backTo pos (starEach args env)) (backToKw pos (keywordEach [] env))) := fun ov => mcall_line e1 hl
  simp only [e2]
theorem se_meth {o : Expr} {m : Str} {apos pos : Pos} {tab : Str → Option (Nat × Fn)} {d : Dn PV} {e : Expr} {es : List Expr} {ds : Dn (List PV)} (F : MtF T k m tab) (ho : SE T k N sc o d) (ha : SA T k N sc (e :: es) ds) (hs : notSuper o = true) (hl : (apos.endLine == pos.line) = true)
    (hn : Nat.blt (e :: es).length 30 = true) (ns : notStar e = true) (nss : es.all notStar = true) : SE T k N sc (.Call (.Attribute o m apos) (e :: es) [] pos) (dMeth m tab d ds) := fun X W c tk => by
  refine ⟨fun pins s σ H Q I ⟨B, b, ρ, Z, h, env, G, er, p⟩ => ?_⟩
  refine PySem.W.methodCall_KW (pl := plainOf o X.env) (thn ((ho X W c tk).run pins s σ H (fun w H1 => ∃ ρ1 v h1, Nxt T.cA T.K B b ρ Z H ρ1 h1 H1 ∧ rep T.cA T.K ρ1 Z H1 v w ∧ post T B b ρ Z H W σ _ Q) I
    ⟨B, b, ρ, Z, h, env, G, er, post.go .post p fun ρ1 H1 v w h1 n rv q => ⟨ρ1, v, h1, n, rv, q⟩⟩) fun u s1 ⟨x, H1, I1, rx, ρ1, v, h1, n, rv, q⟩ => ?_) (met_eq hs hl hn (by simp [ns, nss]))
  split at q
  · rename_i cc fs vs e1
    split at q
    · exact q.elim
    · rename_i hm
      split at q
      · rename_i np fn e2
        obtain ⟨f, hc, hmt, FF⟩ := F.at_ cc np fn e2
        obtain ⟨k', fd, ps, dsv, dvs, hk, hps, GF, hb, hd, rd, kp⟩ := FF.ex
        obtain ⟨a, dx, ws, ew, h2, hlw, rl⟩ := clsOf_rep n.good rv e1
        subst ew
        obtain rfl : u = Value.ref a := rx
        have G' : FnOk X.prog X.w X.K X.mg X.base (CXT' T) k' f fd ps (spF T np fn) := by rw [c.hP, c.hw, c.hK, c.hmg, c.hb]; exact GF
        refine getmeth_ok I1 h2 (by rw [c.hK]; exact hc) (by rw [c.hK]; exact hmt) (fldAt_none hm) ?_
        refine PySem.W.callWith_K (first := [.ref a]) (h₀ := X.base) I.ok.mod.kin (by rw [c.hK]; exact kp) (thn ((ha X W c tk).run pos pins s1 σ H1 (fun ws H2 => ∃ ρ2 xs h2, Nxt T.cA T.K B b ρ1 Z H1 ρ2 h2 H2 ∧ repL T.cA T.K ρ2 Z H2 xs ws ∧ post T B b ρ Z H W σ _ Q) I1
          ⟨B, b, ρ1, Z, h1, env, n.good, er.step n G, postA.go (CK.post.shift n) q fun ρ2 H2 xs ws h2 n2 rs q2 => ⟨ρ2, xs, h2, n2, rs, q2⟩⟩) fun us s2 ⟨ws, H2, I2, rw2, ρ2, xs, h2, n2, rs, q2⟩ => ⟨I2.kIn, ?_⟩) (starEach_cons ns) (backTo_plain nss)
        split at q2
        · rename_i hlen
          have rl2 : repL T.cA T.K ρ2 Z H2 (v :: xs) (V.ref a :: ws) := repL_cons.mpr ⟨n2.rep n.good rv, rs⟩
          have hl2 : dvs = [] := by have := (rd ρ Z H).length; simpa using this.symm
          subst hl2
          refine run_fnSD (us := .ref a :: us) (vs := .ref a :: ws) (E := fun σ => WE W σ) G' (c.room.mono hk) (by rw [c.hK]; exact hb) hd (passT c tk σ) I2 (.cons rfl rw2) ?_
          rw [List.append_nil]
          exact post_spF n2.good rl2 (by rw [← rl2.length]; simpa using hlen) (q2.shift (n.trans n2))
        · exact q2.elim
      · exact q.elim
  · exact q.elim
theorem se_meth0 {o : Expr} {m : Str} {apos pos : Pos} {tab : Str → Option (Nat × Fn)} {d : Dn PV} (F : MtF T k m tab) (ho : SE T k N sc o d) (hs : notSuper o = true) (hl : (apos.endLine == pos.line) = true) :
    SE T k N sc (.Call (.Attribute o m apos) [] [] pos) (dMeth m tab d dNil) := fun X W c tk => by
  refine ⟨fun pins s σ H Q I ⟨B, b, ρ, Z, h, env, G, er, p⟩ => ?_⟩
  refine PySem.W.methodCall_KW (pl := plainOf o X.env) (thn ((ho X W c tk).run pins s σ H (fun w H1 => ∃ ρ1 v h1, Nxt T.cA T.K B b ρ Z H ρ1 h1 H1 ∧ rep T.cA T.K ρ1 Z H1 v w ∧ post T B b ρ Z H W σ _ Q) I
    ⟨B, b, ρ, Z, h, env, G, er, post.go .post p fun ρ1 H1 v w h1 n rv q => ⟨ρ1, v, h1, n, rv, q⟩⟩) fun u s1 ⟨x, H1, I1, rx, ρ1, v, h1, n, rv, q⟩ => ?_) (met_eq hs hl (by rfl) (by rfl))
  split at q
  · rename_i cc fs vs e1
    split at q
    · exact q.elim
    · rename_i hm
      split at q
      · rename_i np fn e2
        obtain ⟨f, hc, hmt, FF⟩ := F.at_ cc np fn e2
        obtain ⟨k', fd, ps, dsv, dvs, hk, hps, GF, hb, hd, rd, kp⟩ := FF.ex
        obtain ⟨a, dx, ws, ew, h2, hlw, rl⟩ := clsOf_rep n.good rv e1
        subst ew
        obtain rfl : u = Value.ref a := rx
        have G' : FnOk X.prog X.w X.K X.mg X.base (CXT' T) k' f fd ps (spF T np fn) := by rw [c.hP, c.hw, c.hK, c.hmg, c.hb]; exact GF
        refine getmeth_ok I1 h2 (by rw [c.hK]; exact hc) (by rw [c.hK]; exact hmt) (fldAt_none hm) ?_
        simp only [dNil, R.bind_ok] at q
        split at q
        · rename_i hlen
          have rl2 : repL T.cA T.K ρ1 Z H1 [v] [V.ref a] := repL.one rv
          have hl2 : dvs = [] := by have := (rd ρ Z H).length; simpa using this.symm
          subst hl2
          refine PySem.W.callWith_K0 (first := [.ref a]) I1.kIn (by rw [c.hK]; exact kp) (run_fnSD (us := [.ref a]) (vs := [.ref a]) (E := fun σ => WE W σ) G' (c.room.mono hk) (by rw [c.hK]; exact hb) hd (passT c tk σ) I1 (.cons rfl .nil) ?_)
          rw [List.append_nil]
          exact post_spF n.good rl2 (by rw [← rl2.length]; simpa using hlen) (q.shift n)
        · exact q.elim
      · exact q.elim
  · exact q.elim
end
end Mn
end
section
set_option Elab.async false
set_option linter.all false
set_option maxRecDepth 100000
namespace Mn
open PySem PySem.Spec L2

/-! ## statements -/
inductive SR where
  | nx (env : EnvP) (h : AH)
  | rt (v : PV) (h : AH)
  | bk (env : EnvP) (h : AH)
  | ct (env : EnvP) (h : AH)
  | exc (fr : Bool) (c : Str) (as : List PV) (env : EnvP) (h : AH)
  | bad
abbrev Ds := EnvP → Nat → AH → SR
section
variable (T : Tt) (B : List Nat) (b : Nat) (ρ Z : List Addr) (H : Hp)
def postS (W : WX) (D : Ends) (r : SR) : Prop := match r with
  | .nx env h' => ∀ ρ' H' σ', Nxt T.cA T.K B b ρ Z H ρ' h' H' → envR T ρ' Z H' env σ' → D.nx σ' H'
  | .bk env h' => ∀ ρ' H' σ', Nxt T.cA T.K B b ρ Z H ρ' h' H' → envR T ρ' Z H' env σ' → D.bk σ' H'
  | .ct env h' => ∀ ρ' H' σ', Nxt T.cA T.K B b ρ Z H ρ' h' H' → envR T ρ' Z H' env σ' → D.ct σ' H'
  | .rt v h' => ∀ ρ' H' w, Nxt T.cA T.K B b ρ Z H ρ' h' H' → rep T.cA T.K ρ' Z H' v w → D.rt w H'
  | .exc fr c as env h' => (T.m = true → fr = true) ∧ ∀ ρ' H' σ' cls d, Nxt T.cA T.K B b ρ Z H ρ' h' H' → envR T ρ' Z H' env σ' → excR T c as cls d H' → W cls d σ' H'
  | .bad => False
end
def tS (T : Tt) (W : WX) (d : Ds) : TS := fun D σ H => ∃ B b ρ Z h env, Good T.cA T.K B b ρ Z h H ∧ envR T ρ Z H env σ ∧ postS T B b ρ Z H W D (d env b h)
structure SxOk (T : Tt) (k : Nat) (N : List Str) (sc : Scope) (X : Cx) : Prop extends CxOk T k N sc X where
  stk : X.stack = X.env :: X.outer
  frm : X.env.frame = some X.env.locals
  pas : PassesOwn (model X.prog X.w) X.A X.env X.xe
  pasAt : T.dl = true → ∀ hd, PassesOwnAt (model X.prog X.w) (X.A.mark hd) X.A X.env X.xe
def SS (T : Tt) (k : Nat) (N : List Str) (sc : Scope) (s : Stmt) (d : Ds) : Prop := ∀ X W, SxOk T k N sc X → TakesT T X W → PS X s (tS T W d)
def SSs (T : Tt) (k : Nat) (N : List Str) (sc : Scope) (s : List Stmt) (d : Ds) : Prop := ∀ X W, SxOk T k N sc X → TakesT T X W → PSs X s (tS T W d)
theorem PSimp {X : Cx} {e : Stmt} {t t' : TS} (p : PS X e t) (h : ∀ D σ H, t' D σ H → t D σ H) : PS X e t' := ⟨fun pins s σ H D I q => p.run pins s σ H D I (h D σ H q)⟩
theorem PSsimp {X : Cx} {e : List Stmt} {t t' : TS} (p : PSs X e t) (h : ∀ D σ H, t' D σ H → t D σ H) : PSs X e t' := ⟨fun pins s σ H D I q => p.run pins s σ H D I (h D σ H q)⟩
/-- an expression's answer ahead of a statement's -/
def R.then {α : Type} (r : R α) (env : EnvP) (f : α → AH → SR) : SR := match r with
  | .ok a h => f a h
  | .exc fr c as h => .exc fr c as env h
  | .bad => .bad
@[simp] theorem R.then_ok {α : Type} (a : α) (h : AH) (env : EnvP) (f : α → AH → SR) : (R.ok a h).then env f = f a h := rfl
@[simp] theorem R.then_exc {α : Type} (fr : Bool) (c : Str) (as : List PV) (h : AH) (env : EnvP) (f : α → AH → SR) : (R.exc fr c as h : R α).then env f = .exc fr c as env h := rfl
@[simp] theorem R.then_bad {α : Type} (env : EnvP) (f : α → AH → SR) : (R.bad : R α).then env f = .bad := rfl
def SR.andThen (r : SR) (f : EnvP → AH → SR) : SR := match r with
  | .nx env h => f env h
  | r => r
section
variable {T : Tt} {B : List Nat} {b : Nat} {ρ Z : List Addr} {h : AH} {H : Hp} {W : WX} {σ : L2.St} {D : Ends}
theorem postS.shift {ρ1 : List Addr} {H1 : Hp} {h1 : AH} {r : SR} (n : Nxt T.cA T.K B b ρ Z H ρ1 h1 H1) (p : postS T B b ρ Z H W D r) : postS T B b ρ1 Z H1 W D r := by
  cases r with
  | nx env h' => exact fun ρ' H' σ' n' => p ρ' H' σ' (n.trans n')
  | bk env h' => exact fun ρ' H' σ' n' => p ρ' H' σ' (n.trans n')
  | ct env h' => exact fun ρ' H' σ' n' => p ρ' H' σ' (n.trans n')
  | rt v h' => exact fun ρ' H' w n' => p ρ' H' w (n.trans n')
  | exc fr c as env h' => exact ⟨p.1, fun ρ' H' σ' cls d n' => p.2 ρ' H' σ' cls d (n.trans n')⟩
  | bad => exact p
/-- an expression ahead in a statement -/
theorem post.goS {r : R PV} {env : EnvP} {f : PV → AH → SR} {Q : VK} (G : Good T.cA T.K B b ρ Z h H) (er : envR T ρ Z H env σ) (p : postS T B b ρ Z H W D (r.then env f))
    (g : ∀ ρ1 H1 v w h1, Nxt T.cA T.K B b ρ Z H ρ1 h1 H1 → rep T.cA T.K ρ1 Z H1 v w → postS T B b ρ Z H W D (f v h1) → Q w H1) : post T B b ρ Z H W σ r Q := by
  cases r with
  | ok v h' => exact fun ρ' H' w n r => g ρ' H' v w h' n r p
  | exc fr c as h' => exact ⟨p.1, fun ρ' H' cls d n x => p.2 ρ' H' σ cls d n (er.step n G) x⟩
  | bad => exact p
theorem postT.goS {r : R Bool} {env : EnvP} {f : Bool → AH → SR} {Q : Bool → Hp → Prop} (G : Good T.cA T.K B b ρ Z h H) (er : envR T ρ Z H env σ) (p : postS T B b ρ Z H W D (r.then env f))
    (g : ∀ ρ1 H1 v h1, Nxt T.cA T.K B b ρ Z H ρ1 h1 H1 → postS T B b ρ Z H W D (f v h1) → Q v H1) : postT T B b ρ Z H W σ r Q := by
  cases r with
  | ok v h' => exact fun ρ' H' n => g ρ' H' v h' n p
  | exc fr c as h' => exact ⟨p.1, fun ρ' H' cls d n x => p.2 ρ' H' σ cls d n (er.step n G) x⟩
  | bad => exact p
theorem postA.goS {r : R (List PV)} {env : EnvP} {f : List PV → AH → SR} {Q : List V → Hp → Prop} (G : Good T.cA T.K B b ρ Z h H) (er : envR T ρ Z H env σ) (p : postS T B b ρ Z H W D (r.then env f))
    (g : ∀ ρ1 H1 v w h1, Nxt T.cA T.K B b ρ Z H ρ1 h1 H1 → repL T.cA T.K ρ1 Z H1 v w → postS T B b ρ Z H W D (f v h1) → Q w H1) : postA T B b ρ Z H W σ r Q := by
  cases r with
  | ok v h' => exact fun ρ' H' w n r => g ρ' H' v w h' n r p
  | exc fr c as h' => exact ⟨p.1, fun ρ' H' cls d n x => p.2 ρ' H' σ cls d n (er.step n G) x⟩
  | bad => exact p
theorem envR.set {env : EnvP} {i : Nat} {x : PV} {v : V} (er : envR T ρ Z H env σ) (r : rep T.cA T.K ρ Z H x v) : envR T ρ Z H (env.set i (some x)) (σ.set i (some v)) := by
  refine ⟨by simp [er.1], fun j y e => ?_⟩
  by_cases hj : j = i
  · subst hj
    have hl : j < env.length := by
      have := (List.getElem?_eq_some_iff.mp e).1
      simpa using this
    rw [List.getElem?_set_self hl] at e
    cases e
    exact ⟨v, by rw [List.getElem?_set_self (by rw [← er.1]; exact hl)], r⟩
  · rw [List.getElem?_set_ne (Ne.symm hj)] at e ⊢
    exact er.2 j y e
end
section
variable {T : Tt} {k : Nat} {N : List Str} {sc : Scope}
/-! blocks -/
def dNx : Ds := fun env _ h => .nx env h
def dSeq (d1 d2 : Ds) : Ds := fun env b h => (d1 env b h).andThen fun env' h' => d2 env' b h'
theorem sss_nil : SSs T k N sc [] dNx := fun X W c tk => PSsimp pss_nil fun D σ H ⟨B, b, ρ, Z, h, env, G, er, p⟩ => p ρ H σ G.nxt er
theorem andThen_post {B : List Nat} {b : Nat} {ρ Z : List Addr} {H : Hp} {W : WX} {D : Ends} {r : SR} {f : EnvP → AH → SR} {nx : L2.St → Hp → Prop} (p : postS T B b ρ Z H W D (r.andThen f))
    (g : ∀ ρ1 H1 σ1 env1 h1, Nxt T.cA T.K B b ρ Z H ρ1 h1 H1 → envR T ρ1 Z H1 env1 σ1 → postS T B b ρ Z H W D (f env1 h1) → nx σ1 H1) : postS T B b ρ Z H W { D with nx := nx } r := by
  cases r with
  | nx env h' => exact fun ρ' H' σ' n er => g ρ' H' σ' env h' n er p
  | bk env h' => exact p
  | ct env h' => exact p
  | rt v h' => exact p
  | exc fr c as env h' => exact p
  | bad => exact p
theorem sss_cons {s : Stmt} {ss : List Stmt} {d1 d2 : Ds} (h1 : SS T k N sc s d1) (h2 : SSs T k N sc ss d2) : SSs T k N sc (s :: ss) (dSeq d1 d2) := fun X W c tk =>
  PSsimp (pss_cons (h1 X W c tk) (h2 X W c tk)) fun D σ H ⟨B, b, ρ, Z, h, env, G, er, p⟩ => ⟨B, b, ρ, Z, h, env, G, er, andThen_post p fun ρ1 H1 σ1 env1 h1 n er1 q =>
    ⟨B, b, ρ1, Z, h1, env1, n.good, er1, q.shift n⟩⟩
/-! small statements -/
def dBk : Ds := fun env _ h => .bk env h
def dCt : Ds := fun env _ h => .ct env h
theorem ss_pass {pos : Pos} : SS T k N sc (.Pass pos) dNx := fun X W c tk => PSimp ps_pass fun D σ H ⟨B, b, ρ, Z, h, env, G, er, p⟩ => p ρ H σ G.nxt er
theorem ss_break {pos : Pos} : SS T k N sc (.Break pos) dBk := fun X W c tk => PSimp ps_break fun D σ H ⟨B, b, ρ, Z, h, env, G, er, p⟩ => p ρ H σ G.nxt er
theorem ss_continue {pos : Pos} : SS T k N sc (.Continue pos) dCt := fun X W c tk => PSimp ps_continue fun D σ H ⟨B, b, ρ, Z, h, env, G, er, p⟩ => p ρ H σ G.nxt er
def dRet (d : Dn PV) : Ds := fun env b h => (d env b h).then env fun v h1 => .rt v h1
def dRetN : Ds := fun _ _ h => .rt .non h
theorem ss_ret {e : Expr} {d : Dn PV} {pos : Pos} (he : SE T k N sc e d) : SS T k N sc (.Return (some e) pos) (dRet d) := fun X W c tk =>
  PSimp (ps_ret (he X W c.toCxOk tk)) fun D σ H ⟨B, b, ρ, Z, h, env, G, er, p⟩ => ⟨B, b, ρ, Z, h, env, G, er, post.goS G er p fun ρ1 H1 v w h1 n rv q => q ρ1 H1 w n rv⟩
theorem ss_retN {pos : Pos} : SS T k N sc (.Return none pos) dRetN := fun X W c tk => PSimp ps_retN fun D σ H ⟨B, b, ρ, Z, h, env, G, er, p⟩ => p ρ H .non G.nxt (by unfold rep; rfl)
def dExp (d : Dn PV) : Ds := fun env b h => (d env b h).then env fun _ h1 => .nx env h1
def noComp : Expr → Bool
  | .ListComp .. => false
  | .SetComp .. => false
  | .DictComp .. => false
  | _ => true
theorem sw_no {e : Expr} {tg : Option Expr} {l : Nat} {env : Env} (h : noComp e = true) : swapsWith e tg l env = pure false := by
  cases e <;> first | rfl | cases h
theorem ss_expr {e : Expr} {d : Dn PV} {pos : Pos} (he : SE T k N sc e d) (hn : noComp e = true) : SS T k N sc (.Expr e pos) (dExp d) := fun X W c tk =>
  PSimp (ps_expr (he X W c.toCxOk tk) (sw_no hn)) fun D σ H ⟨B, b, ρ, Z, h, env, G, er, p⟩ => ⟨B, b, ρ, Z, h, env, G, er, post.goS G er p fun ρ1 H1 v w h1 n rv q => q ρ1 H1 σ n (er.step n G)⟩
def dSet (i : Nat) (d : Dn PV) : Ds := fun env b h => (d env b h).then env fun v h1 => .nx (env.set i (some v)) h1
theorem ss_set {i : Nat} {x : Str} {e : Expr} {d : Dn PV} {pos pos' : Pos} (hi : N[i]? = some x) (hl : locB sc x = true) (he : SE T k N sc e d) (hn : noComp e = true) : SS T k N sc (.Assign [.Name x pos'] e pos) (dSet i d) := fun X W c tk =>
  PSimp (ps_set (i := i) (by rw [c.hN]; exact c.nd) (by rw [c.hN]; exact hi) (c.loc x hl).1 (he X W c.toCxOk tk) (sw_no hn) (c.loc x hl).2) fun D σ H ⟨B, b, ρ, Z, h, env, G, er, p⟩ =>
    ⟨B, b, ρ, Z, h, env, G, er, post.goS G er p fun ρ1 H1 v w h1 n rv q => q ρ1 H1 _ n ((er.step n G).set rv)⟩
def dIf (c : Dn Bool) (d1 d2 : Ds) : Ds := fun env b h => (c env b h).then env fun t h1 => if t = true then d1 env b h1 else d2 env b h1
theorem ss_if {e : Expr} {s1 s2 : List Stmt} {c : Dn Bool} {d1 d2 : Ds} {pos : Pos} (he : ST T k N sc e c) (h1 : SSs T k N sc s1 d1) (h2 : SSs T k N sc s2 d2) : SS T k N sc (.If e s1 s2 pos) (dIf c d1 d2) := fun X W cx tk =>
  PSimp (ps_if (he X W cx.toCxOk tk) (h1 X W cx tk) (h2 X W cx tk)) fun D σ H ⟨B, b, ρ, Z, h, env, G, er, p⟩ => ⟨B, b, ρ, Z, h, env, G, er, postT.goS G er p fun ρ1 H1 v h1 n q => by
    cases v with
    | true => exact ⟨B, b, ρ1, Z, h1, env, n.good, er.step n G, q.shift n⟩
    | false => exact ⟨B, b, ρ1, Z, h1, env, n.good, er.step n G, q.shift n⟩⟩
/-! targets -/
abbrev Dg := PV → EnvP → AH → Option EnvP
/-- other slots than ts stay -/
def Oth (ts : List Nat) (σ σ' : L2.St) : Prop := σ'.length = σ.length ∧ ∀ j, j ∉ ts → σ'[j]? = σ[j]?
def tG (T : Tt) (ts : List Nat) (d : Dg) : TG := fun v σ H Q => ∃ B b ρ Z h env x, Good T.cA T.K B b ρ Z h H ∧ envR T ρ Z H env σ ∧ rep T.cA T.K ρ Z H x v ∧ ∃ env', d x env h = some env' ∧ ∀ σ', envR T ρ Z H env' σ' → Oth ts σ σ' → Q σ' H
def tGs (T : Tt) (ts : List Nat) (d : List PV → EnvP → AH → Option EnvP) : TGs := fun vs σ H Q => ∃ B b ρ Z h env xs, Good T.cA T.K B b ρ Z h H ∧ envR T ρ Z H env σ ∧ repL T.cA T.K ρ Z H xs vs ∧ ∃ env', d xs env h = some env' ∧ ∀ σ', envR T ρ Z H env' σ' → Oth ts σ σ' → Q σ' H
def SG (T : Tt) (k : Nat) (N : List Str) (sc : Scope) (tg : Expr) (ts : List Nat) (d : Dg) : Prop := ∀ X, CxOk T k N sc X → PG X tg (tG T ts d)
def SGs (T : Tt) (k : Nat) (N : List Str) (sc : Scope) (tg : List Expr) (ts : List Nat) (d : List PV → EnvP → AH → Option EnvP) : Prop := ∀ X, CxOk T k N sc X → PGs X tg (tGs T ts d)
theorem PGimp {X : Cx} {e : Expr} {t t' : TG} (p : PG X e t) (h : ∀ v σ H Q, t' v σ H Q → t v σ H Q) : PG X e t' := ⟨fun pins s σ H v u Q I r q => p.run pins s σ H v u Q I r (h v σ H Q q)⟩
theorem PGsimp {X : Cx} {e : List Expr} {t t' : TGs} (p : PGs X e t) (h : ∀ v σ H Q, t' v σ H Q → t v σ H Q) : PGs X e t' := ⟨fun pins s σ H v u Q I r q => p.run pins s σ H v u Q I r (h v σ H Q q)⟩
def gNm (i : Nat) : Dg := fun x env _ => some (env.set i (some x))
theorem sg_name {i : Nat} {x : Str} {pos : Pos} (hi : N[i]? = some x) (hl : locB sc x = true) : SG T k N sc (.Name x pos) [i] (gNm i) := fun X c =>
  PGimp (pg_name (i := i) (by rw [c.hN]; exact c.nd) (by rw [c.hN]; exact hi) (c.loc x hl).1 (c.loc x hl).2) fun v σ H Q ⟨B, b, ρ, Z, h, env, x, G, er, r, env', e, q⟩ => by
    cases e
    exact q _ (er.set r) ⟨by simp, fun j hj => by rw [List.getElem?_set_ne]; intro z; exact hj (by rw [z]; exact List.mem_cons_self)⟩
def gN : List PV → EnvP → AH → Option EnvP := fun xs env _ => match xs with
  | [] => some env
  | _ => none
def gC (d : Dg) (ds : List PV → EnvP → AH → Option EnvP) : List PV → EnvP → AH → Option EnvP := fun xs env h => match xs with
  | x :: xs => (d x env h).bind fun env' => ds xs env' h
  | [] => none
theorem sgs_nil : SGs T k N sc [] [] gN := fun X c => PGsimp pgs_nil fun vs σ H Q ⟨B, b, ρ, Z, h, env, xs, G, er, r, env', e, q⟩ => by
  cases xs with
  | nil => unfold repL at r; cases e; exact ⟨r, q σ er ⟨rfl, fun _ _ => rfl⟩⟩
  | cons x xs => cases e
theorem assignEach_cons {e : Expr} {es : List Expr} {env : Env} (h : notStar e = true) : assignEach (e :: es) env = (false, assign e env) :: assignEach es env := by
  cases e <;> first | rfl | cases h
theorem sgs_cons {e : Expr} {es : List Expr} {t1 t2 : List Nat} {d : Dg} {ds : List PV → EnvP → AH → Option EnvP} (h1 : SG T k N sc e t1 d) (h2 : SGs T k N sc es t2 ds) (ns : notStar e = true) : SGs T k N sc (e :: es) (t1 ++ t2) (gC d ds) := fun X c =>
  PGsimp (pgs_cons (h1 X c) (h2 X c) (by rw [assignEach_cons ns]; rfl)) fun vs σ H Q ⟨B, b, ρ, Z, h, env, xs, G, er, r, env', e, q⟩ => by
    cases xs with
    | nil => cases e
    | cons x xs =>
      unfold repL at r
      obtain ⟨w, ws, rfl, r1, r2⟩ := r
      simp only [gC] at e
      cases e1 : d x env h with
      | none => rw [e1] at e; cases e
      | some env1 =>
        rw [e1] at e
        exact ⟨w, ws, rfl, B, b, ρ, Z, h, env, x, G, er, r1, env1, e1, fun σ1 er1 o1 => ⟨B, b, ρ, Z, h, env1, xs, G, er1, r2, env', e, fun σ2 er2 o2 => q σ2 er2 ⟨o2.1.trans o1.1, fun j hj => by
          rw [List.mem_append, not_or] at hj
          exact (o2.2 j hj.2).trans (o1.2 j hj.1)⟩⟩⟩
/-! sequences -/
/-- the items of a list or a tuple -/
def seqOf (h : AH) : PV → Option (List PV)
  | .tup xs => some xs
  | .lst xs => some xs
  | .ref n => match h[n]? with
    | some (.lst xs) => some xs
    | _ => none
  | _ => none
theorem seqOf_rep {B : List Nat} {b : Nat} {ρ Z : List Addr} {h : AH} {H : Hp} (G : Good T.cA T.K B b ρ Z h H) {x : PV} {v : V} {xs : List PV} (r : rep T.cA T.K ρ Z H x v) (e : seqOf h x = some xs) :
    ∃ a vs, v = .ref a ∧ (H a = some (.lst vs) ∨ SqT T.K H a vs) ∧ xs.length ≤ sizeLine ∧ repL T.cA T.K ρ Z H xs vs := by
  cases x with
  | tup ys =>
    cases e
    unfold rep at r
    obtain ⟨a, vs, e, h1, hz, h2⟩ := r
    exact ⟨a, vs, e, .inr h1, hz, h2⟩
  | lst ys =>
    cases e
    unfold rep at r
    obtain ⟨a, vs, e, h1, _, hz, h2⟩ := r
    exact ⟨a, vs, e, .inl h1, hz, h2⟩
  | ref n =>
    simp only [seqOf] at e
    split at e
    · rename_i ys q
      cases e
      unfold rep at r
      obtain ⟨a, ea, h1⟩ := r
      obtain ⟨vs, h2, hz, h3⟩ := G.obj n a _ h1 q
      exact ⟨a, vs, ea, .inl h2, hz, h3⟩
    · cases e
  | _ => simp [seqOf] at e
def gT (n : Nat) (ds : List PV → EnvP → AH → Option EnvP) : Dg := fun x env h => match seqOf h x with
  | some xs => if xs.length = n then ds xs env h else none
  | none => none
theorem assignEach_len : ∀ {es : List Expr} {env : Env}, (assignEach es env).length = es.length
  | [], _ => rfl
  | e :: es, env => by
    cases e <;> (show (_ :: assignEach es env).length = _; rw [List.length_cons, List.length_cons, assignEach_len])
theorem assignEach_star : ∀ {es : List Expr} {env : Env}, es.all notStar = true → (assignEach es env).findIdx? (·.1) = none
  | [], _, _ => rfl
  | e :: es, env, h => by
    simp only [List.all_cons, Bool.and_eq_true] at h
    rw [assignEach_cons h.1, List.findIdx?_cons]
    simp [assignEach_star h.2]
theorem sg_tup {es : List Expr} {ds : List PV → EnvP → AH → Option EnvP} {x1 : Nat} {pos : Pos} {n : Nat} {ts : List Nat} (hs : SGs T k N sc es ts ds) (hn : es.length = n) (ns : es.all notStar = true) : SG T k N sc (.Tuple es x1 pos) ts (gT n ds) := fun X c => by
  have p1 := pg_tup (X := X) (k := x1) (pos := pos) (n := n) c.calm (hs X c) (by rw [assignEach_len]; exact hn) (assignEach_star ns)
  have p2 := pg_lst (X := X) (k := x1) (pos := pos) (n := n) c.calm (hs X c) (by rw [assignEach_len]; exact hn) (assignEach_star ns)
  refine ⟨fun pins s σ H v u Q I rv ⟨B, b, ρ, Z, h, env, x, G, er, r, env', e, q⟩ => ?_⟩
  unfold gT at e
  split at e
  · rename_i xs e1
    split at e
    · rename_i hl
      obtain ⟨a, vs, ev, hh, _, rs⟩ := seqOf_rep G r e1
      have more : tGs T ts ds vs σ H Q := ⟨B, b, ρ, Z, h, env, xs, G, er, rs, env', e, q⟩
      rcases hh with hh | hh
      · exact p2.run pins s σ H v u Q I rv ⟨a, vs, ev, .of hh, by rw [← rs.length]; exact hl, more⟩
      · exact p1.run pins s σ H v u Q I rv ⟨a, vs, ev, by rw [c.hK]; exact hh, by rw [← rs.length]; exact hl, more⟩
    · cases e
  · cases e
def dUnp (g : Dg) (d : Dn PV) : Ds := fun env b h => (d env b h).then env fun v h1 => match g v env h1 with
  | some env' => .nx env' h1
  | none => .bad
/-- a, b = e (e no display) -/
theorem ss_unp {es : List Expr} {x1 : Nat} {pos pos' : Pos} {e : Expr} {g : Dg} {ts : List Nat} {d : Dn PV} (hg : SG T k N sc (.Tuple es x1 pos') ts g) (he : SE T k N sc e d) (hn : noComp e = true) (hd : (match e with | .Tuple .. => false | _ => true) = true) :
    SS T k N sc (.Assign [.Tuple es x1 pos'] e pos) (dUnp g d) := fun X W c tk =>
  PSimp (ps_asg (he X W c.toCxOk tk) (hg X c.toCxOk) (by unfold swapsWithSole; exact sw_no hn) (by
    cases e <;> first | rfl | cases hd) (by rfl)) fun D σ H ⟨B, b, ρ, Z, h, env, G, er, p⟩ => ⟨B, b, ρ, Z, h, env, G, er, post.goS G er p fun ρ1 H1 v w h1 n rv q => by
      split at q
      · rename_i env' e1
        exact ⟨B, b, ρ1, Z, h1, env, v, n.good, er.step n G, rv, env', e1, fun σ' er' _ => q ρ1 H1 σ' n er'⟩
      · exact q.elim⟩
end
end Mn
end
section
set_option Elab.async false
set_option linter.all false
set_option maxRecDepth 100000
namespace Mn
open PySem PySem.Spec L2

/-! ## what is walked -/
structure ItP where
  n : Nat
  get : AH → Nat → Option PV
  fin : AH → Bool
structure ItR (T : Tt) (B : List Nat) (b : Nat) (ρ Z : List Addr) (H : Hp) (it : ItP) (J : It) : Prop where
  go : ∀ Z' ρ' h' H' i x, ZX H Z Z' → Good T.cA T.K B b ρ' Z' h' H' → Step ρ Z H ρ' H' → it.get h' i = some x → i < it.n →
    J.go i H' ∧ ∀ w H2, J.yld i H' w H2 → Nxt T.cA T.K B b ρ' Z' H' ρ' h' H2 ∧ rep T.cA T.K ρ' Z' H2 x w
  small : it.n ≤ sizeLine
  stop : ∀ Z' ρ' h' H', ZX H Z Z' → Good T.cA T.K B b ρ' Z' h' H' → Step ρ Z H ρ' H' → it.fin h' = true → J.stop it.n H'
section
variable (T : Tt) (B : List Nat) (b : Nat) (ρ Z : List Addr) (H : Hp)
def postI (W : WX) (σ : L2.St) (r : R ItP) (Q : It → Hp → Prop) : Prop := match r with
  | .ok it h' => ∀ ρ' H' J, Nxt T.cA T.K B b ρ Z H ρ' h' H' → ItR T B b ρ' Z H' it J → Q J H'
  | .exc fr c as h' => (T.m = true → fr = true) ∧ ∀ ρ' H' cls d, Nxt T.cA T.K B b ρ Z H ρ' h' H' → excR T c as cls d H' → W cls d σ H'
  | .bad => False
end
def tI (T : Tt) (W : WX) (d : Dn ItP) : TI := fun σ H Q => ∃ B b ρ Z h env, Good T.cA T.K B b ρ Z h H ∧ envR T ρ Z H env σ ∧ postI T B b ρ Z H W σ (d env b h) Q
def SI (T : Tt) (k : Nat) (N : List Str) (sc : Scope) (tg : Expr) (e : Expr) (d : Dn ItP) : Prop := ∀ X W, CxOk T k N sc X → TakesT T X W → PI X tg e (tI T W d)
section
variable {T : Tt} {B : List Nat} {b : Nat} {ρ Z : List Addr} {h : AH} {H : Hp} {W : WX} {σ : L2.St} {D : Ends}
theorem CK.postI {Q : It → Hp → Prop} : CK T B b ρ Z H W σ (fun r => Mn.postI T B b ρ Z H W σ r Q) := ⟨fun z => z, fun fr c as h' p => p⟩
theorem postI.shift {ρ1 : List Addr} {H1 : Hp} {h1 : AH} {r : R ItP} {Q : It → Hp → Prop} (n : Nxt T.cA T.K B b ρ Z H ρ1 h1 H1) (p : Mn.postI T B b ρ Z H W σ r Q) : Mn.postI T B b ρ1 Z H1 W σ r Q := by
  cases r with
  | ok v h' => exact fun ρ' H' J n' => p ρ' H' J (n.trans n')
  | exc fr c as h' => exact ⟨p.1, fun ρ' H' cls d n' => p.2 ρ' H' cls d (n.trans n')⟩
  | bad => exact p
theorem postI.go {β : Type} {r : R ItP} {f : ItP → AH → R β} {C : R β → Prop} {Q : It → Hp → Prop} (ck : CK T B b ρ Z H W σ C) (p : C (r.bind f))
    (g : ∀ ρ1 H1 it J h1, Nxt T.cA T.K B b ρ Z H ρ1 h1 H1 → ItR T B b ρ1 Z H1 it J → C (f it h1) → Q J H1) : Mn.postI T B b ρ Z H W σ r Q := by
  cases r with
  | ok it h' => exact fun ρ' H' J n r => g ρ' H' it J h' n r p
  | exc fr c as h' => exact ck.exc fr c as h' p
  | bad => exact ck.bad p
theorem postI.goS {r : R ItP} {env : EnvP} {f : ItP → AH → SR} {Q : It → Hp → Prop} (G : Good T.cA T.K B b ρ Z h H) (er : envR T ρ Z H env σ) (p : postS T B b ρ Z H W D (r.then env f))
    (g : ∀ ρ1 H1 it J h1, Nxt T.cA T.K B b ρ Z H ρ1 h1 H1 → ItR T B b ρ1 Z H1 it J → postS T B b ρ Z H W D (f it h1) → Q J H1) : Mn.postI T B b ρ Z H W σ r Q := by
  cases r with
  | ok it h' => exact fun ρ' H' J n r => g ρ' H' it J h' n r p
  | exc fr c as h' => exact ⟨p.1, fun ρ' H' cls d n x => p.2 ρ' H' σ cls d n (er.step n G) x⟩
  | bad => exact p
end

/-! ## for, while -/
def dForL (g : Dg) (body : Ds) (it : ItP) : Nat → Nat → EnvP → Nat → AH → SR
  | 0, _, env, _, h => if it.fin h = true then .nx env h else .bad
  | m + 1, i, env, b, h => match it.get h i with
    | none => .bad
    | some x => match g x env h with
      | none => .bad
      | some env1 => match body env1 b h with
        | .nx env2 h2 => dForL g body it m (i + 1) env2 b h2
        | .ct env2 h2 => dForL g body it m (i + 1) env2 b h2
        | .bk env2 h2 => .nx env2 h2
        | r => r
def dFor (di : Dn ItP) (g : Dg) (body : Ds) : Ds := fun env b h => (di env b h).then env fun it h1 => dForL g body it it.n 0 env b h1
def dWhile (c : Dn Bool) (body : Ds) : Nat → Ds
  | 0 => fun _ _ _ => .bad
  | m + 1 => fun env b h => (c env b h).then env fun t h1 => if t = true then (match body env b h1 with
    | .nx env2 h2 => dWhile c body m env2 b h2
    | .ct env2 h2 => dWhile c body m env2 b h2
    | .bk env2 h2 => .nx env2 h2
    | r => r) else .nx env h1
def notSet : Expr → Bool
  | .Set .. => false
  | _ => true
theorem fold_no {e : Expr} {env : Env} (h : notSet e = true) : ∀ x, foldedSetIterable e env x = pure x := by
  intro x
  cases e <;> first | rfl | cases h
section
variable {T : Tt} {k : Nat} {N : List Str} {sc : Scope}
/-- a body's answer as a loop takes it -/
def loopS (r : SR) (f : EnvP → AH → SR) : SR := match r with
  | .nx env2 h2 => f env2 h2
  | .ct env2 h2 => f env2 h2
  | .bk env2 h2 => .nx env2 h2
  | r => r
theorem loopS_post {B : List Nat} {b : Nat} {ρ Z ρ0 : List Addr} {H H0 : Hp} {h0 : AH} {W : WX} {D : Ends} {r : SR} {f : EnvP → AH → SR} {nx : L2.St → Hp → Prop} (n0 : Nxt T.cA T.K B b ρ Z H ρ0 h0 H0) (p : postS T B b ρ Z H W D (loopS r f))
    (g : ∀ ρ1 H1 σ1 env1 h1, Nxt T.cA T.K B b ρ0 Z H0 ρ1 h1 H1 → envR T ρ1 Z H1 env1 σ1 → postS T B b ρ Z H W D (f env1 h1) → nx σ1 H1) : postS T B b ρ0 Z H0 W { D with nx := nx, ct := nx, bk := D.nx } r := by
  cases r with
  | nx env h' => exact fun ρ' H' σ' n er => g ρ' H' σ' env h' n er p
  | ct env h' => exact fun ρ' H' σ' n er => g ρ' H' σ' env h' n er p
  | bk env h' => exact fun ρ' H' σ' n er => p ρ' H' σ' (n0.trans n) er
  | rt v h' => exact fun ρ' H' w n => p ρ' H' w (n0.trans n)
  | exc fr c as env h' => exact ⟨p.1, fun ρ' H' σ' cls d n => p.2 ρ' H' σ' cls d (n0.trans n)⟩
  | bad => exact p
theorem ss_for {tg iter : Expr} {body : List Stmt} {ts : List Nat} {di : Dn ItP} {g : Dg} {d : Ds} {pos : Pos} (hi : SI T k N sc tg iter di) (hg : SG T k N sc tg ts g) (hb : SSs T k N sc body d) (hs : notSet iter = true) :
    SS T k N sc (.For tg iter body [] pos) (dFor di g d) := fun X W c tk =>
  PSimp (ps_for c.pas c.calm (hi X W c.toCxOk tk) (hg X c.toCxOk) (hb X W c tk) (fold_no hs)) fun D σ H ⟨B, b, ρ, Z, h, env, G, er, p⟩ => ⟨B, b, ρ, Z, h, env, G, er, postI.goS G er p fun ρ1 H1 it J h1 n ir q => by
    refine ⟨fun i m σ' H' => ∃ ρ' h' env', Nxt T.cA T.K B b ρ1 Z H1 ρ' h' H' ∧ envR T ρ' Z H' env' σ' ∧ i + m = it.n ∧ postS T B b ρ Z H W D (dForL g d it m i env' b h'), ⟨it.n, ρ1, h1, env, n.good.nxt, er.step n G, by simp, q⟩, ?_⟩
    rintro i m σ' H' ⟨ρ', h', env', n', er', e, p'⟩
    cases m with
    | zero =>
      left
      simp only [dForL] at p'
      split at p'
      · rename_i hf
        have := ir.stop Z ρ' h' H' .refl n'.good n'.step hf
        rw [← e] at this
        exact ⟨this, p' ρ' H' σ' (n.trans n') er'⟩
      · exact p'.elim
    | succ m =>
      right
      simp only [dForL] at p'
      split at p'
      · exact p'.elim
      · rename_i x ex
        obtain ⟨go, yl⟩ := ir.go Z ρ' h' H' i x .refl n'.good n'.step ex (by omega)
        split at p'
        · exact p'.elim
        · rename_i env1 e1
          refine ⟨go, fun σ2 H2 => ∃ ρ2 h2 env2, Nxt T.cA T.K B b ρ1 Z H1 ρ2 h2 H2 ∧ envR T ρ2 Z H2 env2 σ2 ∧ (i + 1) + m = it.n ∧ postS T B b ρ Z H W D (dForL g d it m (i + 1) env2 b h2), fun σ2 H2 z => ⟨m, Nat.lt_succ_self m, z⟩, fun x' H2 y => ?_⟩
          obtain ⟨n2, rx⟩ := yl x' H2 y
          refine ⟨B, b, ρ', Z, h', env', x, n2.good, er'.step n2 n'.good, rx, env1, e1, fun σ3 er3 _ => ?_⟩
          refine ⟨B, b, ρ', Z, h', env1, n2.good, er3, ?_⟩
          have p2 : postS T B b ρ Z H W D (loopS (d env1 b h') fun env2 h2 => dForL g d it m (i + 1) env2 b h2) := by
            revert p'
            unfold loopS
            cases d env1 b h' <;> exact fun z => z
          exact loopS_post ((n.trans n').trans n2) p2 fun ρ4 H4 σ4 env4 h4 n4 er4 p4 => ⟨ρ4, h4, env4, (n'.trans n2).trans n4, er4, by omega, p4⟩⟩
theorem postT.goS' {B : List Nat} {b : Nat} {ρ Z ρ0 : List Addr} {h : AH} {H H0 : Hp} {W : WX} {σ : L2.St} {D : Ends} {r : R Bool} {env : EnvP} {f : Bool → AH → SR} {Q : Bool → Hp → Prop} (n0 : Nxt T.cA T.K B b ρ0 Z H0 ρ h H) (er : envR T ρ Z H env σ) (p : postS T B b ρ0 Z H0 W D (r.then env f))
    (g : ∀ ρ1 H1 v h1, Nxt T.cA T.K B b ρ Z H ρ1 h1 H1 → postS T B b ρ0 Z H0 W D (f v h1) → Q v H1) : postT T B b ρ Z H W σ r Q := by
  cases r with
  | ok v h' => exact fun ρ' H' n => g ρ' H' v h' n p
  | exc fr c as h' => exact ⟨p.1, fun ρ' H' cls d n x => p.2 ρ' H' σ cls d (n0.trans n) (er.step n n0.good) x⟩
  | bad => exact p
theorem ss_while {e : Expr} {body : List Stmt} {c : Dn Bool} {d : Ds} {m : Nat} {pos : Pos} (he : ST T k N sc e c) (hb : SSs T k N sc body d) : SS T k N sc (.While e body [] pos) (dWhile c d m) := fun X W cx tk =>
  PSimp (ps_while cx.pas (he X W cx.toCxOk tk) (hb X W cx tk)) fun D σ H ⟨B, b, ρ, Z, h, env, G, er, p⟩ => by
    refine ⟨fun m σ' H' => ∃ ρ' h' env', Nxt T.cA T.K B b ρ Z H ρ' h' H' ∧ envR T ρ' Z H' env' σ' ∧ postS T B b ρ Z H W D (dWhile c d m env' b h'), ⟨m, ρ, h, env, G.nxt, er, p⟩, ?_⟩
    rintro m σ' H' ⟨ρ', h', env', n', er', p'⟩
    cases m with
    | zero => exact p'.elim
    | succ m =>
      simp only [dWhile] at p'
      refine ⟨B, b, ρ', Z, h', env', n'.good, er', postT.goS' (D := D) n' er' p' fun ρ2 H2 v h2 n2 q => ?_⟩
      cases v with
      | false => exact q ρ2 H2 σ' (n'.trans n2) (er'.step n2 n'.good)
      | true =>
        rw [if_pos rfl] at q ⊢
        refine ⟨fun σ3 H3 => ∃ ρ3 h3 env3, Nxt T.cA T.K B b ρ Z H ρ3 h3 H3 ∧ envR T ρ3 Z H3 env3 σ3 ∧ postS T B b ρ Z H W D (dWhile c d m env3 b h3), fun σ3 H3 z => ⟨m, Nat.lt_succ_self m, z⟩, ?_⟩
        refine ⟨B, b, ρ2, Z, h2, env', n2.good, er'.step n2 n'.good, ?_⟩
        have p2 : postS T B b ρ Z H W D (loopS (d env' b h2) fun env2 h2 => dWhile c d m env2 b h2) := by
          revert q
          unfold loopS
          cases d env' b h2 <;> exact fun z => z
        exact loopS_post (n'.trans n2) p2 fun ρ4 H4 σ4 env4 h4 n4 er4 p4 => ⟨ρ4, h4, env4, (n'.trans n2).trans n4, er4, p4⟩
end
end Mn
end
section
set_option Elab.async false
set_option linter.all false
set_option maxRecDepth 100000
namespace Mn
open PySem PySem.Spec L2

/-! ## comprehensions -/
section
variable {cA : Str → Addr} {K : PySem.W.Frag} {B : List Nat} {b : Nat} {ρ Z : List Addr} {h : AH} {H : Hp}
theorem objR_stepZ {Z' ρ' : List Addr} {H' : Hp} (s : Step ρ Z H ρ' H') (wr : Written ρ H) (zx : ZX H Z Z') {a : Addr} (ha : H' a = H a) : ∀ {o : AO}, objR cA K ρ Z H a o → objR cA K ρ' Z' H' a o
  | .lst xs, ⟨vs, e, hz, r⟩ => ⟨vs, by rw [ha]; exact e, hz, repL_stepZ s wr zx r⟩
  | .dic ks xs, ⟨vs, e, l, r⟩ => ⟨vs, by rw [ha]; exact e, l, repL_stepZ s wr zx r⟩
  | .ins c fs xs, ⟨dx, vs, e, l, r⟩ => ⟨dx, vs, by rw [ha]; exact e, l, repL_stepZ s wr zx r⟩
/-- a new thing that is reserved -/
theorem zx_new {p : Addr} (hp : H p = none) : ZX H Z (p :: Z) := fun a ha => by
  rcases List.mem_cons.mp ha with e | e
  · exact .inr (by rw [e]; exact hp)
  · exact .inl e
theorem Good.res {p : Addr} {o : HO} (G : Good cA K B b ρ Z h H) (hp : H p = none) : Good cA K B b ρ (p :: Z) h (upd H p o) := by
  have s : Step ρ Z H ρ (upd H p o) := step_new hp
  refine ⟨G.len, G.nd, fun n a ao e1 e2 => ?_, G.base, G.bs, G.cl, fun a ha => ?_, fun a ha => ?_⟩
  · exact objR_stepZ s G.written (zx_new hp) (upd_ne fun z => G.newR hp (z ▸ List.mem_of_getElem? e1)) (G.obj n a ao e1 e2)
  · simp only [List.mem_cons, not_or]
    exact ⟨fun z => G.newR hp (z ▸ ha), G.dis a ha⟩
  · rcases List.mem_cons.mp ha with e | e
    · rw [e, upd_same]; simp
    · exact upd_there (G.zt a e)
/-- fewer are reserved -/
theorem rep_less {Z' : List Addr} (hz : ∀ a ∈ Z', a ∈ Z) : ∀ (x : PV) (v : V), rep cA K ρ Z H x v → rep cA K ρ Z' H x v := by
  intro x
  have lift : ∀ {xs : List PV}, (∀ x ∈ xs, ∀ v, rep cA K ρ Z H x v → rep cA K ρ Z' H x v) → ∀ {vs}, repL cA K ρ Z H xs vs → repL cA K ρ Z' H xs vs := by
    intro xs hx vs h
    obtain ⟨l, g⟩ := repL_iff.mp h
    exact repL_iff.mpr ⟨l, fun i x v e1 e2 => hx x (List.mem_of_getElem? e1) v (g i x v e1 e2)⟩
  have st : ∀ {a}, Still ρ Z a → Still ρ Z' a := fun h => ⟨h.1, fun z => h.2 (hz _ z)⟩
  induction x using PV.ind with
  | tup xs ih => intro v h; unfold rep at h ⊢; obtain ⟨a, vs, e, h1, hz, h2⟩ := h; exact ⟨a, vs, e, h1, hz, lift ih h2⟩
  | lst xs ih => intro v h; unfold rep at h ⊢; obtain ⟨a, vs, e, h1, h2, hz, h3⟩ := h; exact ⟨a, vs, e, h1, st h2, hz, lift ih h3⟩
  | dic ks xs ih => intro v h; unfold rep at h ⊢; obtain ⟨a, vs, e, h1, hl, h2, h3⟩ := h; exact ⟨a, vs, e, h1, hl, st h2, lift ih h3⟩
  | ins c fs xs ih => intro v h; unfold rep at h ⊢; obtain ⟨a, dx, vs, e, h1, hl, h2, h3⟩ := h; exact ⟨a, dx, vs, e, h1, hl, st h2, lift ih h3⟩
  | scr ns => intro v h; unfold rep at h ⊢; obtain ⟨a, o, e, h1, h2⟩ := h; exact ⟨a, o, e, h1, st h2⟩
  | _ => intro v h; exact h
theorem repL_less {Z' : List Addr} (hz : ∀ a ∈ Z', a ∈ Z) {xs : List PV} {vs : List V} (h : repL cA K ρ Z H xs vs) : repL cA K ρ Z' H xs vs := by
  obtain ⟨l, g⟩ := repL_iff.mp h
  exact repL_iff.mpr ⟨l, fun i x v e1 e2 => rep_less hz x v (g i x v e1 e2)⟩
theorem objR_less {Z' : List Addr} (hz : ∀ a ∈ Z', a ∈ Z) {a : Addr} : ∀ {o : AO}, objR cA K ρ Z H a o → objR cA K ρ Z' H a o
  | .lst xs, ⟨vs, e, z, r⟩ => ⟨vs, e, z, repL_less hz r⟩
  | .dic ks xs, ⟨vs, e, l, r⟩ => ⟨vs, e, l, repL_less hz r⟩
  | .ins c fs xs, ⟨dx, vs, e, l, r⟩ => ⟨dx, vs, e, l, repL_less hz r⟩
theorem Good.less {Z' : List Addr} (G : Good cA K B b ρ Z h H) (hz : ∀ a ∈ Z', a ∈ Z) : Good cA K B b ρ Z' h H :=
  ⟨G.len, G.nd, fun n a ao e1 e2 => objR_less hz (G.obj n a ao e1 e2), G.base, G.bs, G.cl, fun a ha z => G.dis a ha (hz a z), fun a ha => G.zt a (hz a ha)⟩
theorem Step.lessZ {Z' ρ' : List Addr} {H' : Hp} (s : Step ρ Z H ρ' H') (hz : ∀ a ∈ Z', a ∈ Z) : Step ρ Z' H ρ' H' := by
  obtain ⟨m, e, n⟩ := s.pre
  exact ⟨⟨m, e, fun a ha => ⟨(n a ha).1, fun z => (n a ha).2 (hz a z)⟩⟩, s.keep, s.there⟩
/-- what is reserved is written by whom it is reserved for -/
theorem rep_resw {p : Addr} {ys : List V} {o : HO} (hp : p ∈ Z) (e0 : H p = some (.lst ys)) : ∀ (x : PV) (v : V), rep cA K ρ Z H x v → rep cA K ρ Z (upd H p o) x v := by
  intro x
  have lift : ∀ {xs : List PV}, (∀ x ∈ xs, ∀ v, rep cA K ρ Z H x v → rep cA K ρ Z (upd H p o) x v) → ∀ {vs}, repL cA K ρ Z H xs vs → repL cA K ρ Z (upd H p o) xs vs := by
    intro xs hx vs h
    obtain ⟨l, g⟩ := repL_iff.mp h
    exact repL_iff.mpr ⟨l, fun i x v e1 e2 => hx x (List.mem_of_getElem? e1) v (g i x v e1 e2)⟩
  have ne : ∀ {a}, Still ρ Z a → a ≠ p := fun h z => h.2 (z ▸ hp)
  induction x using PV.ind with
  | tup xs ih =>
    intro v h; unfold rep at h ⊢
    obtain ⟨a, vs, e, h1, hz, h2⟩ := h
    refine ⟨a, vs, e, ?_, hz, lift ih h2⟩
    rcases h1 with h1 | h1
    · have na : a ≠ p := fun z => by subst z; rcases h1 with h1 | ⟨_, h1⟩ <;> (rw [e0] at h1; cases h1)
      rcases h1 with h1 | ⟨oo, h1⟩
      · exact .inl (.inl (by rw [upd_ne na]; exact h1))
      · exact .inl (.inr ⟨oo, by rw [upd_ne na]; exact h1⟩)
    · exact .inr h1
  | lst xs ih => intro v h; unfold rep at h ⊢; obtain ⟨a, vs, e, h1, h2, hz, h3⟩ := h; exact ⟨a, vs, e, by rw [upd_ne (ne h2)]; exact h1, h2, hz, lift ih h3⟩
  | dic ks xs ih => intro v h; unfold rep at h ⊢; obtain ⟨a, vs, e, h1, hl, h2, h3⟩ := h; exact ⟨a, vs, e, by rw [upd_ne (ne h2)]; exact h1, hl, h2, lift ih h3⟩
  | ins c fs xs ih => intro v h; unfold rep at h ⊢; obtain ⟨a, dx, vs, e, h1, hl, h2, h3⟩ := h; exact ⟨a, dx, vs, e, by rw [upd_ne (ne h2)]; exact h1, hl, h2, lift ih h3⟩
  | scr ns => intro v h; unfold rep at h ⊢; obtain ⟨a, oo, e, h1, h2⟩ := h; exact ⟨a, oo, e, by rw [upd_ne (ne h2)]; exact h1, h2⟩
  | _ => intro v h; exact h
theorem repL_resw {p : Addr} {ys : List V} {o : HO} (hp : p ∈ Z) (e0 : H p = some (.lst ys)) {xs : List PV} {vs : List V} (h : repL cA K ρ Z H xs vs) : repL cA K ρ Z (upd H p o) xs vs := by
  obtain ⟨l, g⟩ := repL_iff.mp h
  exact repL_iff.mpr ⟨l, fun i x v e1 e2 => rep_resw hp e0 x v (g i x v e1 e2)⟩
theorem Good.resw {p : Addr} {ys : List V} {o : HO} (G : Good cA K B b ρ Z h H) (hp : p ∈ Z) (e0 : H p = some (.lst ys)) : Good cA K B b ρ Z h (upd H p o) := by
  refine ⟨G.len, G.nd, fun n a ao e1 e2 => ?_, G.base, G.bs, G.cl, G.dis, fun a ha => upd_there (G.zt a ha)⟩
  have na : a ≠ p := fun z => G.dis a (List.mem_of_getElem? e1) (z ▸ hp)
  have q := G.obj n a ao e1 e2
  cases ao with
  | lst xs => obtain ⟨vs, e, z, r⟩ := q; exact ⟨vs, by rw [upd_ne na]; exact e, z, repL_resw hp e0 r⟩
  | dic ks xs => obtain ⟨vs, e, l, r⟩ := q; exact ⟨vs, by rw [upd_ne na]; exact e, l, repL_resw hp e0 r⟩
  | ins c fs xs => obtain ⟨dx, vs, e, l, r⟩ := q; exact ⟨dx, vs, by rw [upd_ne na]; exact e, l, repL_resw hp e0 r⟩
end

/-- the slots of the block's own names forgotten -/
def wipeE (env : EnvP) : List Nat → EnvP
  | [] => env
  | v :: vs => (wipeE env vs).set v none
theorem wipeE_length (env : EnvP) : ∀ vs, (wipeE env vs).length = env.length
  | [] => rfl
  | v :: vs => by unfold wipeE; rw [List.length_set, wipeE_length env vs]
theorem wipe_get {α : Type} {σ : List (Option α)} : True := trivial
theorem wipeE_some {env : EnvP} {i : Nat} {x : PV} : ∀ {vs : List Nat}, (wipeE env vs)[i]? = some (some x) → env[i]? = some (some x) ∧ i ∉ vs
  | [], h => ⟨h, by simp⟩
  | v :: vs, h => by
    unfold wipeE at h
    by_cases hi : v = i
    · subst hi
      by_cases hv : v < (wipeE env vs).length
      · rw [List.getElem?_set_self hv] at h; cases h
      · rw [List.getElem?_eq_none (by simpa using hv)] at h; cases h
    · rw [List.getElem?_set_ne hi] at h
      obtain ⟨h1, h2⟩ := wipeE_some h
      exact ⟨h1, by simp only [List.mem_cons, not_or]; exact ⟨fun e => hi e.symm, h2⟩⟩
theorem wipe_ne {σ : L2.St} {i : Nat} : ∀ {vs : List Nat}, i ∉ vs → (wipe σ vs)[i]? = σ[i]?
  | [], _ => rfl
  | v :: vs, h => by
    simp only [List.mem_cons, not_or] at h
    unfold wipe
    rw [List.getElem?_set_ne (Ne.symm h.1)]
    exact wipe_ne h.2
theorem wipe_in {σ : L2.St} {i : Nat} : ∀ {vs : List Nat}, i ∈ vs → i < σ.length → (wipe σ vs)[i]? = some none
  | [], h, _ => by cases h
  | v :: vs, h, hl => by
    unfold wipe
    by_cases e : v = i
    · subst e
      rw [List.getElem?_set_self (by rw [wipe_length]; exact hl)]
    · rw [List.getElem?_set_ne e]
      exact wipe_in (by rcases List.mem_cons.mp h with z | z; exact absurd z.symm e; exact z) hl
theorem wipe_oth {σ σ2 : L2.St} {ts vs : List Nat} (o : Oth ts (wipe σ vs) σ2) (hs : ∀ i ∈ ts, i ∈ vs) : wipe σ2 vs = wipe σ vs := by
  have hl : σ2.length = σ.length := by have := o.1; rwa [wipe_length] at this
  apply List.ext_getElem?
  intro i
  by_cases hi : i ∈ vs
  · by_cases hb : i < σ.length
    · rw [wipe_in hi hb, wipe_in hi (by omega)]
    · rw [List.getElem?_eq_none (by rw [wipe_length]; omega), List.getElem?_eq_none (by rw [wipe_length]; omega)]
  · rw [wipe_ne hi, o.2 i (fun z => hi (hs i z)), wipe_ne hi]
theorem envR.wipe {T : Tt} {ρ Z : List Addr} {H : Hp} {env : EnvP} {σ : L2.St} (er : envR T ρ Z H env σ) (vs : List Nat) : envR T ρ Z H (wipeE env vs) (L2.wipe σ vs) := by
  refine ⟨by rw [wipeE_length, wipe_length]; exact er.1, fun i x e => ?_⟩
  obtain ⟨e1, e2⟩ := wipeE_some e
  obtain ⟨v, q1, q2⟩ := er.2 i x e1
  exact ⟨v, by rw [wipe_ne e2]; exact q1, q2⟩
def dCompL (g : Dg) (c : Dn Bool) (elt : Dn PV) (it : ItP) : Nat → Nat → EnvP → Nat → AH → List PV → R (List PV)
  | 0, _, _, _, h, acc => if it.fin h = true then .ok acc h else .bad
  | m + 1, i, env, b, h, acc => match it.get h i with
    | none => .bad
    | some x => match g x env h with
      | none => .bad
      | some env1 => match c env1 b h with
        | .ok false h1 => dCompL g c elt it m (i + 1) env b h1 acc
        | .ok true h1 => (match elt env1 b h1 with
          | .ok y h2 => dCompL g c elt it m (i + 1) env b h2 (acc ++ [y])
          | _ => .bad)
        | _ => .bad
def dComp (mu : Bool) (vs : List Nat) (di : Dn ItP) (g : Dg) (c : Dn Bool) (elt : Dn PV) : Dn PV := fun env b h => (di env b h).bind fun it h1 => (dCompL g c elt it it.n 0 (wipeE env vs) b h1 []).bind fun xs h2 => mkL mu xs h2
def dYes : Dn Bool := fun _ _ h => .ok true h
def STs (T : Tt) (k : Nat) (N : List Str) (sc : Scope) (es : List Expr) (d : Dn Bool) : Prop := ∀ X W, CxOk T k N sc X → TakesT T X W → PTs X es (tT T W d)
section
variable {T : Tt} {k : Nat} {N : List Str} {sc : Scope}
theorem PTsimp {X : Cx} {e : List Expr} {t t' : TT} (p : PTs X e t) (h : ∀ σ H Q, t' σ H Q → t σ H Q) : PTs X e t' := ⟨fun pins s σ H Q I q => p.run pins s σ H Q I (h σ H Q q)⟩
theorem sts_nil : STs T k N sc [] dYes := fun X W c tk => PTsimp pts_nil fun σ H Q ⟨B, b, ρ, Z, h, env, G, er, p⟩ => p ρ H G.nxt
theorem sts_one {e : Expr} {d : Dn Bool} (h : ST T k N sc e d) : STs T k N sc [e] d := fun X W c tk => pts_one (h X W c tk)
/-- nothing is let out of a block -/
theorem takesF {T : Tt} {X : Cx} : TakesT T X (fun _ _ _ _ => False) := by
  unfold TakesT
  split
  · rintro u s' ⟨_, _, _, _, _, _, _, _, _, _, _, _, _, _, _, _, z⟩; exact z.elim
  · rintro u s' ⟨_, _, _, _, _, _, _, _, _, _, _, _, _, _, _, _, z⟩; exact z.elim
theorem cx_blk {X : Cx} {scope : Scope} {own : List (Str × Nat)} (c : CxOk T k N sc X) (hb : blkC N sc scope own = true) (s : Shared) (H : Hp) (C : Addr) (cl : List (Str × Addr)) (fp : List Addr) : CxOk T k N scope (X.blk s H scope (compEnvC scope cl C X.env) fp) := by
  have ok := blkOk_by hb
  refine ⟨c.hP, c.hw, c.hK, c.hmg, c.hb, c.hN, c.nd, c.calm, c.room, fun x kd e => ?_, fun x e => by show (scope.names.lookup x == some .cell) = true; rw [e]; rfl, ok.kind⟩
  show (relS scope X.env.scope).names.lookup x = _ ∨ _
  cases kd with
  | free =>
    have hs : ((relS scope X.env.scope).names.lookup x).isSome = true := by
      have : ∀ (l : List (Str × NameKind)), (l.lookup x).isSome = true → ((l.map fun (n, k) => if (k == NameKind.free && X.env.scope.kind == .function && X.env.scope.names.lookup n == some .cell) then (n, NameKind.cell) else (n, k)).lookup x).isSome = true := by
        intro l
        induction l with
        | nil => intro z; cases z
        | cons p r ih =>
          intro z
          obtain ⟨n, kk⟩ := p
          cases hx : (x == n) with
          | true =>
            simp only [List.map_cons]
            split <;> simp [List.lookup_cons, hx]
          | false =>
            simp only [List.lookup_cons, hx] at z
            simp only [List.map_cons]
            split <;> (simp only [List.lookup_cons, hx]; exact ih z)
      exact this scope.names (by rw [e]; rfl)
    obtain ⟨k', hk'⟩ := Option.isSome_iff_exists.mp hs
    obtain ⟨k2, h1, h2⟩ := lookup_relS hk'
    rw [e] at h1; cases h1
    rcases h2 with h2 | h2
    · subst h2; exact .inl hk'
    · exact .inr ⟨rfl, by have q := hk'; rw [h2.2] at q; exact q⟩
  | «local» => exact .inl (lookup_relS_keep (by decide) e)
  | cell => exact .inl (lookup_relS_keep (by decide) e)
  | globalImplicit => exact .inl (lookup_relS_keep (by decide) e)
  | globalExplicit => exact .inl (lookup_relS_keep (by decide) e)
theorem blk_of {X : Cx} {scope : Scope} {own : List (Str × Nat)} (c : CxOk T k N sc X) (hb : blkC N sc scope own = true) : BlkOk X.N X.env.scope scope own := by
  have ok := blkOk_by hb
  rw [c.hN]
  refine ⟨ok.kind, ok.uniq, ok.ix, fun y hy e => ?_, ok.own⟩
  rcases ok.free y hy e with z | z
  · rcases c.lk y.1 _ z with q | ⟨q, _⟩; exact .inl q; cases q
  · rcases c.lk y.1 _ z with q | ⟨_, q⟩; exact .inr q; exact .inl q

/-- the reading of the loop -/
theorem comp_read {B : List Nat} {b : Nat} {ρ Z : List Addr} {h : AH} {H1 : Hp} {W : WX} {σ : L2.St} {env : EnvP} {Q : VK} {mu : Bool} {vs ts : List Nat} {g : Dg} {c : Dn Bool} {elt : Dn PV} {it : ItP} {J : It} (G : Good T.cA T.K B b ρ Z h H1) (er : envR T ρ Z H1 env σ)
    (ir : ItR T B b ρ Z H1 it J) (hts : ∀ i ∈ ts, i ∈ vs) (p : post T B b ρ Z H1 W σ ((dCompL g c elt it it.n 0 (wipeE env vs) b h []).bind fun xs h2 => mkL mu xs h2) Q) {D : Addr} (hD : H1 D = none) :
    ∃ W : Nat → Nat → Hp → Prop, (∃ m, W 0 m (upd H1 D (.lst []))) ∧ ∀ i m H, W i m H →
      (J.stop i H ∧ Q (.ref D) H) ∨ (J.go i H ∧ ∃ Nx : Hp → Prop, (∀ H', Nx H' → ∃ m', m' < m ∧ W (i + 1) m' H') ∧ ∀ x H', J.yld i H x H' → tG T ts g x (wipe σ vs) H' fun σ2 H2 => wipe σ2 vs = wipe σ vs ∧ tT T (fun _ _ _ _ => False) c σ2 H2 fun b H3 =>
        if b = true then tE T (fun _ _ _ _ => False) elt σ2 H3 fun y H4 => ∃ acc, H4 D = some (.lst acc) ∧ acc.length < sizeLine ∧ Nx (upd H4 D (.lst (acc ++ [y]))) else Nx H3) := by
  have zx : ZX H1 Z (D :: Z) := zx_new hD
  have less : ∀ a ∈ Z, a ∈ D :: Z := fun a ha => List.mem_cons_of_mem _ ha
  -- the word: what the rest of the loop comes to is as wanted
  refine ⟨fun i m H => ∃ ρ' h' acc vacc, Good T.cA T.K B b ρ' (D :: Z) h' H ∧ Step ρ Z H1 ρ' H ∧ H D = some (.lst vacc) ∧ repL T.cA T.K ρ' (D :: Z) H acc vacc ∧ acc.length ≤ i ∧ i + m = it.n ∧
    post T B b ρ Z H1 W σ ((dCompL g c elt it m i (wipeE env vs) b h' acc).bind fun xs h2 => mkL mu xs h2) Q, ⟨it.n, ρ, h, [], [], G.res hD, step_new hD, upd_same, .nil, by simp, by simp, p⟩, ?_⟩
  rintro i m H ⟨ρ', h', acc, vacc, G', s', eD, racc, la, e, p'⟩
  have envAt : ∀ {ρ2 : List Addr} {H2 : Hp}, Step ρ Z H1 ρ2 H2 → envR T ρ2 (D :: Z) H2 (wipeE env vs) (wipe σ vs) := fun s2 =>
    have w := er.wipe vs
    ⟨w.1, fun i x q => let ⟨v, q1, q2⟩ := w.2 i x q; ⟨v, q1, rep_stepZ s2 G.written zx x v q2⟩⟩
  cases m with
  | zero =>
    left
    simp only [dCompL] at p'
    split at p'
    · rename_i hf
      have st := ir.stop (D :: Z) ρ' h' H zx G' s' hf
      rw [← e] at st
      refine ⟨st, ?_⟩
      simp only [R.bind_ok] at p'
      -- the list is free now
      have G2 : Good T.cA T.K B b ρ' Z h' H := G'.less less
      have r2 : repL T.cA T.K ρ' Z H acc vacc := repL_less less racc
      have nD : D ∉ ρ' := fun z => G'.dis D z List.mem_cons_self
      have hz : acc.length ≤ sizeLine := by have := ir.small; omega
      have n2 : Nxt T.cA T.K B b ρ Z H1 ρ' h' H := ⟨G2, s'⟩
      unfold mkL at p'
      cases mu with
      | false =>
        refine p' ρ' H (.ref D) n2 ?_
        unfold rep
        exact ⟨D, vacc, rfl, eD, ⟨nD, G.newZ hD⟩, hz, r2⟩
      | true =>
        -- it is written from now on
        obtain ⟨more, em, hm⟩ := s'.pre
        have s3 : Step ρ' Z H (ρ' ++ [D]) H → True := fun _ => trivial
        have wr : Written ρ' H := G2.written
        have liftr : ∀ {x : PV} {v : V}, rep T.cA T.K ρ' (D :: Z) H x v → rep T.cA T.K (ρ' ++ [D]) Z H x v := by
          intro x
          have lift : ∀ {xs : List PV}, (∀ x ∈ xs, ∀ {v}, rep T.cA T.K ρ' (D :: Z) H x v → rep T.cA T.K (ρ' ++ [D]) Z H x v) → ∀ {vs}, repL T.cA T.K ρ' (D :: Z) H xs vs → repL T.cA T.K (ρ' ++ [D]) Z H xs vs := by
            intro xs hx vs h
            obtain ⟨l, g⟩ := repL_iff.mp h
            exact repL_iff.mpr ⟨l, fun i x v e1 e2 => hx x (List.mem_of_getElem? e1) (g i x v e1 e2)⟩
          have st : ∀ {a}, Still ρ' (D :: Z) a → Still (ρ' ++ [D]) Z a := fun h => ⟨fun z => by
            rcases List.mem_append.mp z with z | z
            · exact h.1 z
            · simp at z; exact h.2 (by rw [z]; exact List.mem_cons_self), fun z => h.2 (List.mem_cons_of_mem _ z)⟩
          induction x using PV.ind with
          | tup xs ih => intro v h; unfold rep at h ⊢; obtain ⟨a, vs, e, h1, hz, h2⟩ := h; exact ⟨a, vs, e, h1, hz, lift ih h2⟩
          | lst xs ih => intro v h; unfold rep at h ⊢; obtain ⟨a, vs, e, h1, h2, hz, h3⟩ := h; exact ⟨a, vs, e, h1, st h2, hz, lift ih h3⟩
          | dic ks xs ih => intro v h; unfold rep at h ⊢; obtain ⟨a, vs, e, h1, hl, h2, h3⟩ := h; exact ⟨a, vs, e, h1, hl, st h2, lift ih h3⟩
          | ins c fs xs ih => intro v h; unfold rep at h ⊢; obtain ⟨a, dx, vs, e, h1, hl, h2, h3⟩ := h; exact ⟨a, dx, vs, e, h1, hl, st h2, lift ih h3⟩
          | scr ns => intro v h; unfold rep at h ⊢; obtain ⟨a, o, e, h1, h2⟩ := h; exact ⟨a, o, e, h1, st h2⟩
          | ref n => intro v h; unfold rep at h ⊢; obtain ⟨a, e, h1⟩ := h; exact ⟨a, e, by rw [List.getElem?_append_left (List.getElem?_eq_some_iff.mp h1).1]; exact h1⟩
          | _ => intro v h; exact h
        have liftL : ∀ {xs : List PV} {vs : List V}, repL T.cA T.K ρ' (D :: Z) H xs vs → repL T.cA T.K (ρ' ++ [D]) Z H xs vs := fun h => by
          obtain ⟨l, g⟩ := repL_iff.mp h
          exact repL_iff.mpr ⟨l, fun i x v e1 e2 => liftr (g i x v e1 e2)⟩
        have n3 : Nxt T.cA T.K B b ρ Z H1 (ρ' ++ [D]) (h' ++ [.lst acc]) H := by
          refine ⟨⟨by simp [G2.len], ?_, fun n a ao e1 e2 => ?_, by have := G2.base; simp; omega, G2.bs, fun c hc n ao' hn e => ?_, fun a ha => ?_, G2.zt⟩, ⟨more ++ [D], by rw [em, List.append_assoc], fun a ha => ?_⟩, fun a o q1 q2 => s'.keep a o q1 q2, s'.there⟩
          · rw [List.nodup_append]
            exact ⟨G2.nd, by simp, fun a ha c hc => by simp at hc; subst hc; exact fun z => nD (z ▸ ha)⟩
          · by_cases hn : n < ρ'.length
            · rw [List.getElem?_append_left hn] at e1
              rw [List.getElem?_append_left (by rw [← G2.len]; exact hn)] at e2
              have q := G'.obj n a ao e1 e2
              cases ao with
              | lst xs => obtain ⟨vs, e, z, r⟩ := q; exact ⟨vs, e, z, liftL r⟩
              | dic ks xs => obtain ⟨vs, e, l, r⟩ := q; exact ⟨vs, e, l, liftL r⟩
              | ins c fs xs => obtain ⟨dx, vs, e, l, r⟩ := q; exact ⟨dx, vs, e, l, liftL r⟩
            · have hn' : n < (ρ' ++ [D]).length := (List.getElem?_eq_some_iff.mp e1).1
              have hn2 : n = ρ'.length := by simp at hn'; omega
              subst hn2
              rw [List.getElem?_append_right (Nat.le_refl _)] at e1
              rw [G2.len, List.getElem?_append_right (Nat.le_refl _)] at e2
              simp at e1 e2
              subst e1; subst e2
              exact ⟨vacc, eD, hz, liftL racc⟩
          · have hb := G2.bs c hc
            have hl := G2.base
            rw [List.getElem?_append_left (by omega)] at e
            exact G2.cl c hc n ao' hn e
          · rcases List.mem_append.mp ha with z | z
            · exact G2.dis a z
            · simp at z; subst z; exact G.newZ hD
          · rcases List.mem_append.mp ha with z | z
            · exact hm a z
            · simp at z; subst z; exact ⟨hD, G.newZ hD⟩
        refine p' (ρ' ++ [D]) H (.ref D) n3 ?_
        unfold rep
        exact ⟨D, rfl, by rw [← G2.len]; simp⟩
    · exact p'.elim
  | succ m =>
    right
    simp only [dCompL] at p'
    split at p'
    · exact p'.elim
    · rename_i x ex
      obtain ⟨go, yl⟩ := ir.go (D :: Z) ρ' h' H i x zx G' s' ex (by omega)
      split at p'
      · exact p'.elim
      · rename_i env1 e1
        refine ⟨go, fun H2 => ∃ ρ' h' acc vacc, Good T.cA T.K B b ρ' (D :: Z) h' H2 ∧ Step ρ Z H1 ρ' H2 ∧ H2 D = some (.lst vacc) ∧ repL T.cA T.K ρ' (D :: Z) H2 acc vacc ∧ acc.length ≤ i + 1 ∧ (i + 1) + m = it.n ∧
          post T B b ρ Z H1 W σ ((dCompL g c elt it m (i + 1) (wipeE env vs) b h' acc).bind fun xs h2 => mkL mu xs h2) Q, fun H2 z => ⟨m, Nat.lt_succ_self m, z⟩, fun w H2 y => ?_⟩
        obtain ⟨n2, rx⟩ := yl w H2 y
        have s2 : Step ρ Z H1 ρ' H2 := s'.trans (n2.step.lessZ less)
        have eD2 : H2 D = some (.lst vacc) := n2.step.keep D _ eD fun z => G'.dis D z List.mem_cons_self
        refine ⟨B, b, ρ', D :: Z, h', wipeE env vs, x, n2.good, envAt s2, rx, env1, e1, fun σ3 er3 o3 => ?_⟩
        refine ⟨wipe_oth o3 hts, ?_⟩
        refine ⟨B, b, ρ', D :: Z, h', env1, n2.good, er3, ?_⟩
        split at p'
        · -- the test says no
          rename_i h1 ec
          rw [ec]
          intro ρ4 H4 n4
          rw [if_neg (by simp)]
          have s4 : Step ρ Z H1 ρ4 H4 := s2.trans (n4.step.lessZ less)
          exact ⟨ρ4, h1, acc, vacc, n4.good, s4, n4.step.keep D _ eD2 (fun z => G'.dis D z List.mem_cons_self), n4.repL n2.good (n2.repL G' racc), by omega, by omega, p'⟩
        · rename_i h1 ec
          rw [ec]
          intro ρ4 H4 n4
          rw [if_pos rfl]
          have s4 : Step ρ Z H1 ρ4 H4 := s2.trans (n4.step.lessZ less)
          have eD4 : H4 D = some (.lst vacc) := n4.step.keep D _ eD2 (fun z => G'.dis D z List.mem_cons_self)
          refine ⟨B, b, ρ4, D :: Z, h1, env1, n4.good, er3.step n4 n2.good, ?_⟩
          split at p'
          · rename_i y5 h5 ee
            rw [ee]
            intro ρ5 H5 w5 n5 r5
            have eD5 : H5 D = some (.lst vacc) := n5.step.keep D _ eD4 (fun z => n4.good.dis D z List.mem_cons_self)
            have la5 : vacc.length = acc.length := racc.length.symm
            have s5 : Step ρ Z H1 ρ5 H5 := s4.trans (n5.step.lessZ less)
            have racc5 : repL T.cA T.K ρ5 (D :: Z) H5 acc vacc := n5.repL n4.good (n4.repL n2.good (n2.repL G' racc))
            refine ⟨vacc, eD5, by have := ir.small; omega, ρ5, h5, acc ++ [y5], vacc ++ [w5], n5.good.resw List.mem_cons_self eD5, ?_, upd_same, repL_resw List.mem_cons_self eD5 (racc5.append (.one r5)), by simp; omega, by omega, p'⟩
            exact ⟨s5.pre, fun a o q1 q2 => by rw [upd_ne (ne_of_none q1 hD)]; exact s5.keep a o q1 q2, fun a q => upd_there (s5.there a q)⟩
          · exact p'.elim
        · exact p'.elim
theorem se_lc {elt tg iter : Expr} {ifs : List Expr} {scope : Scope} {own : List (Str × Nat)} {ts : List Nat} {pos : Pos} {di : Dn ItP} {g : Dg} {c : Dn Bool} {d : Dn PV} {mu : Bool} (hi : SI T k N sc tg iter di) (hb : blkC N sc scope own = true) (hg : SG T k N scope tg ts g)
    (hc : STs T k N scope ifs c) (he : SE T k N scope elt d) (hs : notSet iter = true) (hts : ∀ i ∈ ts, i ∈ own.map (·.2)) : SE T k N sc (.ListComp elt [⟨tg, iter, ifs, 0⟩] scope pos) (dComp mu (own.map (·.2)) di g c d) := fun X W cx tk =>
  PEimp (pe_lc (own := own) cx.calm (by rw [cx.hN]; exact cx.nd) (hi X W cx tk) (blk_of cx hb) (fun s H C cl fp => hg _ (cx_blk cx hb s H C cl fp)) (fun s H C cl fp => hc _ (fun _ _ _ _ => False) (cx_blk cx hb s H C cl fp) takesF) (fun s H C cl fp => he _ (fun _ _ _ _ => False) (cx_blk cx hb s H C cl fp) takesF) (fold_no hs))
    fun σ H Q ⟨B, b, ρ, Z, h, env, G, er, p⟩ => ⟨B, b, ρ, Z, h, env, G, er, postI.go .post p fun ρ1 H1 it J h1 n ir q D hD => comp_read n.good (er.step n G) ir hts (q.shift n) hD⟩
/-- name = [..] on one line -/
theorem ss_setLc {i : Nat} {y : Str} {py : Pos} {elt tg iter : Expr} {ifs : List Expr} {scope : Scope} {own : List (Str × Nat)} {ts : List Nat} {pos spos : Pos} {di : Dn ItP} {g : Dg} {c : Dn Bool} {d : Dn PV} {mu : Bool} (hy : N[i]? = some y) (hyl : sc.names.lookup y = some .local)
    (hsw : (py.line == pos.line) = true) (hna : (scope.names.any fun (n, k) => n == y && (k == .local || k == .cell)) = false) (hi : SI T k N sc tg iter di) (hb : blkC N sc scope own = true) (hg : SG T k N scope tg ts g)
    (hc : STs T k N scope ifs c) (he : SE T k N scope elt d) (hs : notSet iter = true) (hts : ∀ i ∈ ts, i ∈ own.map (·.2)) : SS T k N sc (.Assign [.Name y py] (.ListComp elt [⟨tg, iter, ifs, 0⟩] scope pos) spos) (dSet i (dComp mu (own.map (·.2)) di g c d)) := fun X W cx tk => by
  have hyl' : X.env.scope.names.lookup y = some .local := by
    rcases cx.lk y _ hyl with z | ⟨z, _⟩
    · exact z
    · cases z
  refine PSimp (ps_setLc (own := own) (i := i) cx.calm (by rw [cx.hN]; exact cx.nd) (by rw [cx.hN]; exact hy) hyl' (sw_true cx.skind hyl' hsw hna) (hi X W cx.toCxOk tk) (blk_of cx.toCxOk hb) (fun s H C cl fp => hg _ (cx_blk cx.toCxOk hb s H C cl fp)) (fun s H C cl fp => hc _ (fun _ _ _ _ => False) (cx_blk cx.toCxOk hb s H C cl fp) takesF) (fun s H C cl fp => he _ (fun _ _ _ _ => False) (cx_blk cx.toCxOk hb s H C cl fp) takesF) (fold_no hs))
    fun D σ H ⟨B, b, ρ, Z, h, env, G, er, p⟩ => ?_
  have p2 : postS T B b ρ Z H W D ((di env b h).then env fun it h1 => (((dCompL g c d it it.n 0 (wipeE env (own.map (·.2))) b h1 []).bind fun xs h2 => mkL mu xs h2).then env fun v h1 => .nx (env.set i (some v)) h1)) := by
    revert p
    unfold dSet dComp
    cases di env b h <;> exact fun z => z
  refine ⟨B, b, ρ, Z, h, env, G, er, postI.goS G er p2 fun ρ1 H1 it J h1 n ir q D' hD => comp_read (W := W) (σ := σ) (mu := mu) (Q := fun x H1 => gName i x σ H1 D.nx) n.good (er.step n G) ir hts ?_ hD⟩
  exact post.goS (D := D) n.good (er.step n G) (q.shift n) fun ρ2 H2 v w h2 n2 rv q2 => q2 ρ2 H2 _ n2 (((er.step n G).step n2 n.good).set rv)
end
end Mn
end
section
set_option Elab.async false
set_option linter.all false
set_option maxRecDepth 100000
namespace Mn
open PySem PySem.Spec L2

/-! ## raise -/
/-- what the text says of a class that is raised with a text -/
structure ExF (T : Tt) (x c : Str) : Prop where
  gl : T.mg x = some (.ref (T.cA c))
  ex : PySem.W.excIn T.K (T.cA c) He.veBase "ValueError.__new__" = true
  kp : PySem.W.keepIn T.K (.ref (T.cA c)) = true
  sb : PySem.W.subIn T.K (.ref (T.cA c)) (.type "BaseException") = some true
  ty : PySem.W.typeIn T.K (.ref (T.cA c)) = some (.type "type")
def dRaise (c : Str) : Ds := fun env _ h => .exc true c [] env h
section
variable {T : Tt} {k : Nat} {N : List Str} {sc : Scope}
theorem ss_raise {x c m : Str} {j : Nat} {p p2 pos pos' : Pos} (F : ExF T x c) (hg : glB sc x = true) (hdb : (x == ("__debug__" : Str)) = false) : SS T k N sc (.Raise (some (.Call (.Name x p) [.Constant (.str m) j p2] [] pos)) none pos') (dRaise c) := fun X W cx tk => by
  have r : Raises X (.ref (T.cA c)) := raises_own (by rw [cx.hK]; exact F.sb) (by rw [cx.hK]; exact F.ty)
  unfold TakesT at tk
  have fin : ∀ D σ H, tS T W (dRaise c) D σ H → W (.ref (T.cA c)) none σ H := fun D σ H ⟨B, b, ρ, Z, h, env, G, er, p⟩ => p.2 ρ H σ _ none G.nxt er ⟨rfl, rfl, rfl⟩
  split at tk
  · exact PSimp (L2N.ps_raise cx.calm tk (L2N.pmk_own (m := m) (j := j) (p2 := p2) PySem.F.excBase_ValueError (by rw [cx.hK]; exact F.ex) (by rw [cx.hmg]; exact F.gl) (by rw [cx.hK]; exact F.kp) r (cx.gl x hg) hdb)) fin
  · exact PSimp (L2.ps_raise cx.calm tk (L2.pmk_own (m := m) (j := j) (p2 := p2) PySem.F.excBase_ValueError (by rw [cx.hK]; exact F.ex) (by rw [cx.hmg]; exact F.gl) (by rw [cx.hK]; exact F.kp) r (cx.gl x hg) hdb)) fin

/-! ## try -/
/-- which raised classes a clause takes -/
structure HdF (T : Tt) (x : Str) (c : Value) (mt : Str → Option Bool) : Prop where
  nm : (T.mg x = some c ∨ (T.mg x = none ∧ bootBuiltins x = some c ∧ x ≠ "__name__"))
  mt : ∀ c' v, mt c' = some v → PySem.W.exmOne T.K (.ref (T.cA c')) c = some v
/-- a suite that raises nothing, in any handler's context -/
def SH (T : Tt) (N : List Str) (sc : Scope) (ss : List Stmt) (d : Ds) : Prop := ∀ k X W a oe pn, SxOk T k N sc X → PSs (X.suite a ((a, oe) :: pn)) ss (tS T W d)
def dTry (mt : Str → Option Bool) (body suite : Ds) : Ds := fun env b h => match body env b h with
  | .exc fr c as env' h' => match mt c with
    | some true => suite env' b h'
    | some false => .exc fr c as env' h'
    | none => .bad
  | r => r
def dTryE (mt : Str → Option Bool) (body suite els : Ds) : Ds := fun env b h => match body env b h with
  | .exc fr c as env' h' => match mt c with
    | some true => suite env' b h'
    | some false => .exc fr c as env' h'
    | none => .bad
  | .nx env' h' => els env' b h'
  | r => r
abbrev Tt.tr (T : Tt) : Tt := { T with dl := false }
theorem sx_tr {X : Cx} {xe : Value → Shared → Prop} {pn : List (Addr × Obj)} (c : SxOk T k N sc X) (hp : PassesOwn (model X.prog X.w) X.A X.env xe) : SxOk T.tr k N sc (X.tr pn xe) :=
  ⟨⟨c.hP, c.hw, c.hK, c.hmg, c.hb, c.hN, c.nd, c.calm, c.room, c.lk, c.fnc, c.skind⟩, c.stk, c.frm, hp, fun z => nomatch z⟩
theorem names_of {X : Cx} {x : Str} {c : Value} {mt : Str → Option Bool} (cx : CxOk T k N sc X) (F : HdF T x c mt) (hg : glB sc x = true) (hdb : (x == ("__debug__" : Str)) = false) : Names X x c :=
  ⟨cx.gl x hg, hdb, by rw [cx.hmg]; exact F.nm⟩
theorem try_post {B : List Nat} {b : Nat} {ρ Z : List Addr} {H : Hp} {W : WX} {D : Ends} {X : Cx} {c : Value} {x : Str} {mt : Str → Option Bool} {r : SR} {suite : Ds} {f : EnvP → AH → SR} {nx : L2.St → Hp → Prop} (cx : CxOk T k N sc X) (F : HdF T x c mt)
    (p : postS T B b ρ Z H W D (match r with
      | .exc fr c as env' h' => (match mt c with
        | some true => suite env' b h'
        | some false => .exc fr c as env' h'
        | none => .bad)
      | .nx env' h' => f env' h'
      | r => r))
    (g : ∀ ρ1 H1 σ1 env1 h1, Nxt T.cA T.K B b ρ Z H ρ1 h1 H1 → envR T ρ1 Z H1 env1 σ1 → postS T B b ρ Z H W D (f env1 h1) → nx σ1 H1) (hm : T.m = false) :
    postS T.tr B b ρ Z H (wOnly X.K c (fun _ _ _ => tS T W suite) W D) { D with nx := nx } r := by
  cases r with
  | nx env h' => exact fun ρ' H' σ' n er => g ρ' H' σ' env h' n er p
  | bk env h' => exact p
  | ct env h' => exact p
  | rt v h' => exact p
  | bad => exact p
  | exc fr c' as env h' =>
    refine ⟨fun z => (by rw [show T.tr.m = T.m from rfl, hm] at z; cases z), fun ρ' H' σ' cls d n er x => ?_⟩
    obtain ⟨e1, e2, e3⟩ := id x
    have e2' : cls = .ref (T.cA c') := e2
    subst e1 e2' e3
    simp only at p
    split at p
    · rename_i e
      refine ⟨true, by rw [cx.hK]; exact F.mt c' true e, fun _ a _ => ⟨B, b, ρ', Z, h', env, n.good, er, p.shift n⟩, (fun z => nomatch z)⟩
    · rename_i e
      exact ⟨false, by rw [cx.hK]; exact F.mt c' false e, (fun z => nomatch z), fun _ => p.2 ρ' H' σ' _ none n er x⟩
    · exact p.elim
theorem ss_try {x : Str} {c : Value} {mt : Str → Option Bool} {body suite : List Stmt} {b₀ : Stmt} {np pos pos' : Pos} {db dsu : Ds} (hm : T.m = false) (F : HdF T x c mt) (hg : glB sc x = true) (hdb : (x == ("__debug__" : Str)) = false) (hb : SSs T.tr k N sc body db) (hsu : SH T N sc (b₀ :: suite) dsu) :
    SS T k N sc (.Try body [.ExceptHandler (some (.Name x np)) none (b₀ :: suite) pos'] [] [] pos) (dTry mt db dsu) := fun X W cx tk => by
  unfold TakesT at tk
  rw [hm] at tk
  refine PSimp (ps_try_only (ts := fun _ _ _ => tS T W dsu) (Wout := W) cx.stk cx.frm (names_of cx.toCxOk F hg hdb) tk (tb := fun W' => tS T.tr W' db) (fun W' pn xe tk' hp => hb _ W' (sx_tr cx hp) (by unfold TakesT; rw [show T.tr.m = T.m from rfl, hm]; exact tk')) (fun a oe cls d pn _ _ => hsu k X W a oe pn cx))
    fun D σ H ⟨B, b, ρ, Z, h, env, G, er, p⟩ => ⟨B, b, ρ, Z, h, env, G, er, ?_⟩
  refine try_post (r := db env b h) (f := fun env' h' => .nx env' h') cx.toCxOk F ?_ (fun ρ1 H1 σ1 env1 h1 n er q => q ρ1 H1 σ1 n er) hm
  revert p
  unfold dTry
  cases db env b h <;> exact fun z => z
theorem ss_tryE {x : Str} {c : Value} {mt : Str → Option Bool} {body suite els : List Stmt} {b₀ : Stmt} {np pos pos' : Pos} {db dsu de : Ds} (hm : T.m = false) (F : HdF T x c mt) (hg : glB sc x = true) (hdb : (x == ("__debug__" : Str)) = false) (hb : SSs T.tr k N sc body db) (hsu : SH T N sc (b₀ :: suite) dsu) (he : SSs T k N sc els de) :
    SS T k N sc (.Try body [.ExceptHandler (some (.Name x np)) none (b₀ :: suite) pos'] els [] pos) (dTryE mt db dsu de) := fun X W cx tk => by
  have tk0 := tk
  unfold TakesT at tk
  rw [hm] at tk
  refine PSimp (ps_try_onlyE (u := tS T W de) (he X W cx tk0) (ts := fun _ _ _ => tS T W dsu) (Wout := W) cx.stk cx.frm (names_of cx.toCxOk F hg hdb) tk (tb := fun W' => tS T.tr W' db) (fun W' pn xe tk' hp => hb _ W' (sx_tr cx hp) (by unfold TakesT; rw [show T.tr.m = T.m from rfl, hm]; exact tk')) (fun a oe cls d pn _ _ => hsu k X W a oe pn cx))
    fun D σ H ⟨B, b, ρ, Z, h, env, G, er, p⟩ => ⟨B, b, ρ, Z, h, env, G, er, ?_⟩
  refine try_post (r := db env b h) (f := fun env' h' => de env' b h') cx.toCxOk F ?_ (fun ρ1 H1 σ1 env1 h1 n er q => ⟨B, b, ρ1, Z, h1, env1, n.good, er, q.shift n⟩) hm
  revert p
  unfold dTryE
  cases db env b h <;> exact fun z => z

/-! ## a def's body -/
theorem cx_def {CXr : CXT} {params : Arguments} {qual : Str} {scope : Scope} {f : Addr} {cd : Value} {A : Around} {outer : List Env} {s : Shared} {H : Hp} {E : XK} {ps : List Str} (S : FnScope N ps scope) (hr : Room k (A.deeper (PyProof.Rows.envOfC qual scope s.heap.objs.size f cd))) :
    SxOk T k N scope (cxOf CXr T.P T.w T.K T.mg T.base N qual scope f cd A outer s H E) :=
  ⟨⟨rfl, rfl, rfl, rfl, rfl, rfl, S.nd, rfl, hr, fun x kd e => .inl e, fun _ _ => rfl, S.kind⟩, rfl, rfl, passes_of rfl, fun _ hd => L2H.passesAt_of rfl hd⟩
theorem takes_def {qual : Str} {scope : Scope} {f : Addr} {cd : Value} {A : Around} {outer : List Env} {s : Shared} {H : Hp} {E : XK} : TakesT T (cxOf (CXT' T) T.P T.w T.K T.mg T.base N qual scope f cd A outer s H E) (fun cls d _ H => E cls d H) := by
  unfold TakesT CXT'
  cases T.m with
  | true => simp only [if_true]; exact L2N.takes_of rfl rfl rfl rfl
  | false => simp only [Bool.false_eq_true, if_false]; exact L2.takes_of rfl rfl rfl rfl
end
end Mn
end
section
set_option Elab.async false
set_option linter.all false
set_option maxRecDepth 100000
namespace Mn
open PySem PySem.Spec L2

/-! ## a region is left: what was made there is written no more -/
mutual
def rz : Nat → AH → Nat → PV → Option PV
  | 0, _, n, v => if v.low n = true then some v else none
  | f + 1, h, n, v => if v.low n = true then some v else match v with
    | .ref i => match h[i]? with
      | some (.lst xs) => (rzL f h n xs).map .lst
      | some (.dic ks xs) => (rzL f h n xs).map (.dic ks)
      | some (.ins c fs xs) => (rzL f h n xs).map (.ins c fs)
      | none => none
    | .tup xs => (rzL f h n xs).map .tup
    | .lst xs => (rzL f h n xs).map .lst
    | .dic ks xs => (rzL f h n xs).map (.dic ks)
    | .ins c fs xs => (rzL f h n xs).map (.ins c fs)
    | _ => none
def rzL : Nat → AH → Nat → List PV → Option (List PV)
  | 0, _, n, xs => if PV.lowL n xs = true then some xs else none
  | f + 1, h, n, xs => xs.mapM fun x => rz f h n x
end
section
variable {cA : Str → Addr} {K : PySem.W.Frag} {B B' : List Nat} {b b' : Nat} {ρ Z : List Addr} {h : AH} {H : Hp}
theorem rep_take {n : Nat} : ∀ (x : PV) (v : V), x.low n = true → rep cA K ρ Z H x v → rep cA K (ρ.take n) Z H x v := by
  intro x
  have lift : ∀ {xs : List PV}, (∀ x ∈ xs, ∀ v, x.low n = true → rep cA K ρ Z H x v → rep cA K (ρ.take n) Z H x v) → PV.lowL n xs = true → ∀ {vs}, repL cA K ρ Z H xs vs → repL cA K (ρ.take n) Z H xs vs := by
    intro xs hx hl vs h
    obtain ⟨l, g⟩ := repL_iff.mp h
    exact repL_iff.mpr ⟨l, fun i x v e1 e2 => hx x (List.mem_of_getElem? e1) v (PV.lowL_iff.mp hl x (List.mem_of_getElem? e1)) (g i x v e1 e2)⟩
  have st : ∀ {a}, Still ρ Z a → Still (ρ.take n) Z a := fun h => ⟨fun z => h.1 (List.mem_of_mem_take z), h.2⟩
  induction x using PV.ind with
  | tup xs ih => intro v hl h; unfold rep at h ⊢; obtain ⟨a, vs, e, h1, hz, h2⟩ := h; exact ⟨a, vs, e, h1, hz, lift ih hl h2⟩
  | lst xs ih => intro v hl h; unfold rep at h ⊢; obtain ⟨a, vs, e, h1, h2, hz, h3⟩ := h; exact ⟨a, vs, e, h1, st h2, hz, lift ih hl h3⟩
  | dic ks xs ih => intro v hl h; unfold rep at h ⊢; obtain ⟨a, vs, e, h1, hk, h2, h3⟩ := h; exact ⟨a, vs, e, h1, hk, st h2, lift ih hl h3⟩
  | ins c fs xs ih => intro v hl h; unfold rep at h ⊢; obtain ⟨a, dx, vs, e, h1, hk, h2, h3⟩ := h; exact ⟨a, dx, vs, e, h1, hk, st h2, lift ih hl h3⟩
  | scr ns => intro v _ h; unfold rep at h ⊢; obtain ⟨a, o, e, h1, h2⟩ := h; exact ⟨a, o, e, h1, st h2⟩
  | ref i =>
    intro v hl h; unfold rep at h ⊢
    obtain ⟨a, e, h1⟩ := h
    simp only [PV.low, decide_eq_true_eq] at hl
    exact ⟨a, e, by rw [List.getElem?_take_of_lt hl]; exact h1⟩
  | _ => intro v _ h; exact h
theorem repL_take {n : Nat} {xs : List PV} {vs : List V} (hl : PV.lowL n xs = true) (h : repL cA K ρ Z H xs vs) : repL cA K (ρ.take n) Z H xs vs := by
  obtain ⟨l, g⟩ := repL_iff.mp h
  exact repL_iff.mpr ⟨l, fun i x v e1 e2 => rep_take x v (PV.lowL_iff.mp hl x (List.mem_of_getElem? e1)) (g i x v e1 e2)⟩
theorem nodup_take {n i : Nat} {a : Addr} (nd : ρ.Nodup) (e : ρ[i]? = some a) (hi : n ≤ i) : a ∉ ρ.take n := fun hm => by
  obtain ⟨j, hj⟩ := List.mem_iff_getElem?.mp hm
  have hjn : j < n := by
    have := (List.getElem?_eq_some_iff.mp hj).1
    rw [List.length_take] at this
    omega
  rw [List.getElem?_take_of_lt hjn] at hj
  have h1 := List.getElem?_eq_some_iff.mp hj
  have h2 := List.getElem?_eq_some_iff.mp e
  have := (List.getElem_inj nd).mp (h1.2.trans h2.2.symm)
  omega
/-- the world without the region -/
theorem Good.take {n : Nat} (G : Good cA K B' b' ρ Z h H) (hn : n ∈ B') (hl : n ≤ h.length) (hb : b ≤ n) (hB : ∀ c ∈ B, c ∈ B' ∧ c ≤ b) : Good cA K B b (ρ.take n) Z (h.take n) H := by
  refine ⟨by rw [List.length_take, List.length_take, G.len], G.nd.sublist (List.take_sublist _ _), fun i a o e1 e2 => ?_, by rw [List.length_take]; omega, fun c hc => (hB c hc).2, fun c hc i o hi e => ?_, fun a ha => G.dis a (List.mem_of_mem_take ha), G.zt⟩
  · have hi : i < n := by
      have := (List.getElem?_eq_some_iff.mp e1).1
      rw [List.length_take] at this
      omega
    rw [List.getElem?_take_of_lt hi] at e1 e2
    have lo := G.cl n hn i o hi e2
    have q := G.obj i a o e1 e2
    cases o with
    | lst xs => obtain ⟨vs, e, z, r⟩ := q; exact ⟨vs, e, z, repL_take lo r⟩
    | dic ks xs => obtain ⟨vs, e, l, r⟩ := q; exact ⟨vs, e, l, repL_take lo r⟩
    | ins c fs xs => obtain ⟨dx, vs, e, l, r⟩ := q; exact ⟨dx, vs, e, l, repL_take lo r⟩
  · have hcn : c ≤ n := Nat.le_trans (hB c hc).2 hb
    rw [List.getElem?_take_of_lt (by omega)] at e
    exact G.cl c (hB c hc).1 i o hi e
theorem rz_rep {n : Nat} (G : Good cA K B' b' ρ Z h H) : ∀ (f : Nat), (∀ (x y : PV) (v : V), rz f h n x = some y → rep cA K ρ Z H x v → rep cA K (ρ.take n) Z H y v) ∧ (∀ (xs ys : List PV) (vs : List V), rzL f h n xs = some ys → repL cA K ρ Z H xs vs → repL cA K (ρ.take n) Z H ys vs ∧ ys.length = xs.length)
  | 0 => by
    refine ⟨fun x y v e r => ?_, fun xs ys vs e r => ?_⟩
    · simp only [rz] at e
      split at e
      · cases e; exact rep_take x v (by assumption) r
      · cases e
    · simp only [rzL] at e
      split at e
      · cases e; exact ⟨repL_take (by assumption) r, rfl⟩
      · cases e
  | f + 1 => by
    obtain ⟨ih1, ih2⟩ := rz_rep G f
    refine ⟨fun x y v e r => ?_, fun xs ys vs e r => ?_⟩
    · simp only [rz] at e
      split at e
      · cases e; exact rep_take x v (by assumption) r
      · rename_i hnl
        have st : ∀ {a}, Still ρ Z a → Still (ρ.take n) Z a := fun h => ⟨fun z => h.1 (List.mem_of_mem_take z), h.2⟩
        cases x with
        | ref i =>
          have hi : n ≤ i := by
            simp only [PV.low, decide_eq_true_eq, Nat.not_lt] at hnl
            exact hnl
          simp only at e
          unfold rep at r
          obtain ⟨a, ev, ea⟩ := r
          have nt : a ∉ ρ.take n := nodup_take G.nd ea hi
          have sa : Still (ρ.take n) Z a := ⟨nt, G.dis a (List.mem_of_getElem? ea)⟩
          split at e
          · rename_i ys q
            obtain ⟨vs, h1, hz, h2⟩ := G.obj i a _ ea q
            obtain ⟨zs, e1, rfl⟩ := Option.map_eq_some_iff.mp e
            obtain ⟨q1, q2⟩ := ih2 _ _ _ e1 h2
            unfold rep
            exact ⟨a, vs, ev, h1, sa, by rw [q2]; exact hz, q1⟩
          · rename_i ks ys q
            obtain ⟨vs, h1, hz, h2⟩ := G.obj i a _ ea q
            obtain ⟨zs, e1, rfl⟩ := Option.map_eq_some_iff.mp e
            obtain ⟨q1, q2⟩ := ih2 _ _ _ e1 h2
            unfold rep
            exact ⟨a, vs, ev, h1, hz, sa, q1⟩
          · rename_i c fs ys q
            obtain ⟨dx, vs, h1, hz, h2⟩ := G.obj i a _ ea q
            obtain ⟨zs, e1, rfl⟩ := Option.map_eq_some_iff.mp e
            obtain ⟨q1, q2⟩ := ih2 _ _ _ e1 h2
            unfold rep
            exact ⟨a, dx, vs, ev, h1, hz, sa, q1⟩
          · cases e
        | tup xs =>
          obtain ⟨zs, e1, rfl⟩ := Option.map_eq_some_iff.mp e
          unfold rep at r ⊢
          obtain ⟨a, vs, ev, h1, hz, h2⟩ := r
          obtain ⟨q1, q2⟩ := ih2 _ _ _ e1 h2
          exact ⟨a, vs, ev, h1, by rw [q2]; exact hz, q1⟩
        | lst xs =>
          obtain ⟨zs, e1, rfl⟩ := Option.map_eq_some_iff.mp e
          unfold rep at r ⊢
          obtain ⟨a, vs, ev, h1, h3, hz, h2⟩ := r
          obtain ⟨q1, q2⟩ := ih2 _ _ _ e1 h2
          exact ⟨a, vs, ev, h1, st h3, by rw [q2]; exact hz, q1⟩
        | dic ks xs =>
          obtain ⟨zs, e1, rfl⟩ := Option.map_eq_some_iff.mp e
          unfold rep at r ⊢
          obtain ⟨a, vs, ev, h1, hz, h3, h2⟩ := r
          obtain ⟨q1, q2⟩ := ih2 _ _ _ e1 h2
          exact ⟨a, vs, ev, h1, hz, st h3, q1⟩
        | ins c fs xs =>
          obtain ⟨zs, e1, rfl⟩ := Option.map_eq_some_iff.mp e
          unfold rep at r ⊢
          obtain ⟨a, dx, vs, ev, h1, hz, h3, h2⟩ := r
          obtain ⟨q1, q2⟩ := ih2 _ _ _ e1 h2
          exact ⟨a, dx, vs, ev, h1, hz, st h3, q1⟩
        | _ => cases e
    · simp only [rzL] at e
      clear ih2
      induction xs generalizing ys vs with
      | nil =>
        simp at e; subst e
        unfold repL at r; subst r
        exact ⟨.nil, rfl⟩
      | cons x xs ih =>
        unfold repL at r
        obtain ⟨w, ws, rfl, r1, r2⟩ := r
        rw [List.mapM_cons] at e
        cases e1 : rz f h n x with
        | none => rw [e1] at e; cases e
        | some y1 =>
          rw [e1] at e
          cases e2 : xs.mapM (fun x => rz f h n x) with
          | none => rw [e2] at e; cases e
          | some ys1 =>
            rw [e2] at e
            have e3 : y1 :: ys1 = ys := Option.some.inj e
            subst e3
            obtain ⟨q1, q2⟩ := ih _ _ e2 r2
            exact ⟨repL_cons.mpr ⟨ih1 _ _ _ e1 r1, q1⟩, by simp [q2]⟩
/-- all names of a value are of written places -/
theorem rep_low : ∀ (x : PV) (v : V), rep cA K ρ Z H x v → x.low ρ.length = true := by
  intro x
  have lift : ∀ {xs : List PV}, (∀ x ∈ xs, ∀ v, rep cA K ρ Z H x v → x.low ρ.length = true) → ∀ {vs}, repL cA K ρ Z H xs vs → PV.lowL ρ.length xs = true := by
    intro xs hx vs h
    refine PV.lowL_iff.mpr fun x hm => ?_
    obtain ⟨i, hi⟩ := List.mem_iff_getElem?.mp hm
    obtain ⟨v, _, r⟩ := h.get hi
    exact hx x hm v r
  induction x using PV.ind with
  | tup xs ih => intro v h; unfold rep at h; obtain ⟨a, vs, e, h1, hz, h2⟩ := h; exact lift ih h2
  | lst xs ih => intro v h; unfold rep at h; obtain ⟨a, vs, e, h1, h2, hz, h3⟩ := h; exact lift ih h3
  | dic ks xs ih => intro v h; unfold rep at h; obtain ⟨a, vs, e, h1, hk, h2, h3⟩ := h; exact lift ih h3
  | ins c fs xs ih => intro v h; unfold rep at h; obtain ⟨a, dx, vs, e, h1, hk, h2, h3⟩ := h; exact lift ih h3
  | ref i => intro v h; unfold rep at h; obtain ⟨a, e, h1⟩ := h; simp only [PV.low, decide_eq_true_eq]; exact (List.getElem?_eq_some_iff.mp h1).1
  | _ => intro v h; rfl
theorem repL_low {xs : List PV} {vs : List V} (h : repL cA K ρ Z H xs vs) : PV.lowL ρ.length xs = true := PV.lowL_iff.mpr fun x hm => by
  obtain ⟨i, hi⟩ := List.mem_iff_getElem?.mp hm
  obtain ⟨v, _, r⟩ := h.get hi
  exact rep_low x v r
theorem Good.allLow (G : Good cA K B b ρ Z h H) {i : Nat} {o : AO} (e : h[i]? = some o) : o.low h.length = true := by
  obtain ⟨a, ea, q⟩ := G.at_ e
  rw [← G.len]
  cases o with
  | lst xs => obtain ⟨vs, _, _, r⟩ := q; exact repL_low r
  | dic ks xs => obtain ⟨vs, _, _, r⟩ := q; exact repL_low r
  | ins c fs xs => obtain ⟨dx, vs, _, _, r⟩ := q; exact repL_low r
/-- a new region begins -/
theorem Good.enter (G : Good cA K B b ρ Z h H) : Good cA K (h.length :: B) h.length ρ Z h H := by
  refine ⟨G.len, G.nd, G.obj, Nat.le_refl _, fun c hc => ?_, fun c hc i o hi e => ?_, G.dis, G.zt⟩
  · rcases List.mem_cons.mp hc with z | z
    · omega
    · exact Nat.le_trans (G.bs c z) G.base
  · rcases List.mem_cons.mp hc with z | z
    · subst z; exact G.allLow e
    · exact G.cl c z i o hi e
theorem Good.leave (G : Good cA K (b' :: B) b' ρ Z h H) (hb : b ≤ b') (hB : ∀ c ∈ B, c ≤ b) : Good cA K B b ρ Z h H :=
  ⟨G.len, G.nd, G.obj, Nat.le_trans hb G.base, hB, fun c hc => G.cl c (List.mem_cons_of_mem _ hc), G.dis, G.zt⟩
end
/-- what is handed out of a region that began at n -/
def popR (n : Nat) (r : R PV) : R PV := match r with
  | .ok v h' => if h'.length = n then .ok v h' else (match rz 8 h' n v with
    | some v' => .ok v' (h'.take n)
    | none => .bad)
  | .exc fr c as h' => if as.isEmpty = true then .exc fr c [] (h'.take n) else .bad
  | .bad => .bad
section
variable {T : Tt} {B : List Nat} {b : Nat} {ρ Z : List Addr} {h : AH} {H : Hp}
theorem nxt_pop {ρ' : List Addr} {h' : AH} {H' : Hp} (G : Good T.cA T.K B b ρ Z h H) (n : Nxt T.cA T.K (h.length :: B) h.length ρ Z H ρ' h' H') : Nxt T.cA T.K B b ρ Z H (ρ'.take h.length) (h'.take h.length) H' := by
  obtain ⟨more, e, hm⟩ := n.step.pre
  have e2 : ρ'.take h.length = ρ := by rw [e, ← G.len, List.take_left']; rfl
  refine ⟨n.good.take List.mem_cons_self n.good.base G.base fun c hc => ⟨List.mem_cons_of_mem _ hc, G.bs c hc⟩, ?_⟩
  rw [e2]
  exact ⟨⟨[], by simp, by simp⟩, n.step.keep, n.step.there⟩
theorem nxt_leave {ρ' : List Addr} {h' : AH} {H' : Hp} (G : Good T.cA T.K B b ρ Z h H) (n : Nxt T.cA T.K (h.length :: B) h.length ρ Z H ρ' h' H') : Nxt T.cA T.K B b ρ Z H ρ' h' H' := ⟨n.good.leave G.base G.bs, n.step⟩
/-- whatever is wanted of what is handed out is given -/
theorem pop_post {W : WX} {σ : L2.St} {Q : VK} {r : R PV} (G : Good T.cA T.K B b ρ Z h H) (p : post T B b ρ Z H W σ (popR h.length r) Q) : post T (h.length :: B) h.length ρ Z H W σ r Q := by
  cases r with
  | ok v h' =>
    simp only [popR] at p
    intro ρ' H' w n r
    split at p
    · exact p ρ' H' w (nxt_leave G n) r
    · split at p
      · rename_i v' e
        exact p _ H' w (nxt_pop G n) ((rz_rep n.good 8).1 v v' w e r)
      · exact p.elim
  | exc fr c as h' =>
    simp only [popR] at p
    split at p
    · rename_i e
      have e' : as = [] := by simpa using e
      subst e'
      exact ⟨p.1, fun ρ' H' cls d n x => p.2 _ H' cls d (nxt_pop G n) x⟩
    · exact p.elim
  | bad => exact p

/-! ## a def -/
/-- a body's answer as the call's -/
def bodyR (r : SR) : R PV := match r with
  | .nx _ h => .ok .non h
  | .rt v h => .ok v h
  | .exc fr c as _ h => .exc fr c as h
  | _ => .bad
def fnE (n : Nat) (args : List PV) : EnvP := args.map some ++ List.replicate (n - args.length) none
/-- pop: what the def makes is its own, and goes; else it is the caller's -/
def mkFn (pop : Bool) (n : Nat) (d : Ds) : Fn := fun args b h => if pop = true then popR h.length (bodyR (d (fnE n args) h.length h)) else bodyR (d (fnE n args) b h)
theorem fnE_rep {N : List Str} {args : List PV} {vs : List V} (r : repL T.cA T.K ρ Z H args vs) : envR T ρ Z H (fnE N.length args) (L2.start N vs) := by
  have l := r.length
  refine ⟨by simp [fnE, L2.start, l], fun i x e => ?_⟩
  unfold fnE at e
  unfold L2.start
  by_cases hi : i < args.length
  · rw [List.getElem?_append_left (by simpa using hi), List.getElem?_map] at e
    cases q : args[i]? with
    | none => rw [q] at e; cases e
    | some y =>
      rw [q] at e; cases e
      obtain ⟨v, e1, r1⟩ := r.get q
      exact ⟨v, by rw [List.getElem?_append_left (by simp; omega), List.getElem?_map, e1]; rfl, r1⟩
  · rw [List.getElem?_append_right (by simpa using hi), List.getElem?_replicate] at e
    split at e <;> cases e
theorem body_post {W : WX} {σ : L2.St} {Q : VK} {r : SR} (p : post T B b ρ Z H (fun cls d _ H => W cls d σ H) σ (bodyR r) Q) : postS T B b ρ Z H (fun cls d _ H => W cls d σ H) { nx := fun _ H' => Q .non H', rt := Q } r := by
  cases r with
  | nx env h' => exact fun ρ' H' σ' n er => p ρ' H' .non n (by unfold rep; rfl)
  | rt v h' => exact p
  | exc fr c as env h' => exact ⟨p.1, fun ρ' H' σ' cls d n er x => p.2 ρ' H' cls d n x⟩
  | bk => exact (show False from p).elim
  | ct => exact (show False from p).elim
  | bad => exact p
theorem fn_ok {k : Nat} {N ps : List Str} {x qual : Str} {params : Arguments} {body : List Stmt} {scope : Scope} {dvs : List V} {kws : List (Str × V)} {f : Addr} {fd : FuncData} {d : Ds} {pop : Bool} (F : FunD T.K x qual params body scope dvs kws f fd) (S : FnScope N ps scope)
    (hb : SSs T k N scope body d) : FnOk T.P T.w T.K T.mg T.base (CXT' T) (k + 1) f fd ps (spF T ps.length (mkFn pop N.length d)) := by
  refine F.ok S (fun vs H Q E h => h.1) fun cdv A outer s H vs Q E hr hsp => ?_
  obtain ⟨hl, B, b, ρ, Z, h, args, G, r, p⟩ := hsp
  refine ⟨_, hb _ _ (cx_def (params := params) S hr) takes_def, ?_⟩
  have p' : post T B b ρ Z H (fun cls d _ H => E cls d H) (L2.start N vs) (mkFn pop N.length d args b h) Q := by
    revert p
    cases mkFn pop N.length d args b h <;> exact fun p => p
  unfold mkFn at p'
  cases pop with
  | true =>
    rw [if_pos rfl] at p'
    exact ⟨h.length :: B, h.length, ρ, Z, h, fnE N.length args, G.enter, fnE_rep r, body_post (W := fun cls d _ H => E cls d H) (pop_post G p')⟩
  | false =>
    rw [if_neg (by simp)] at p'
    exact ⟨B, b, ρ, Z, h, fnE N.length args, G, fnE_rep r, body_post (W := fun cls d _ H => E cls d H) p'⟩
end
end Mn
end
section
set_option Elab.async false
set_option linter.all false
set_option maxRecDepth 100000
namespace Mn
open PySem PySem.Spec L2

/-! ## values as data: None, bools, ints, texts, tuples and lists of them -/
mutual
def PV.toD : PV → PyData
  | .non => .none
  | .bl b => .bool b
  | .int i => .int i
  | .str s => .str s
  | .tup xs => .tuple (PV.toDs xs)
  | .lst xs => .list (PV.toDs xs)
  | _ => .none
def PV.toDs : List PV → List PyData
  | [] => []
  | x :: xs => x.toD :: PV.toDs xs
end
mutual
def PV.dat : PV → Bool
  | .non => true
  | .bl _ => true
  | .int _ => true
  | .str _ => true
  | .tup xs => PV.dats xs
  | .lst xs => PV.dats xs
  | _ => false
def PV.dats : List PV → Bool
  | [] => true
  | x :: xs => x.dat && PV.dats xs
end
/-- == of data -/
def PV.eq (x y : PV) : Bool := PyData.eqv x.toD y.toD
theorem PV.toDs_map : ∀ xs : List PV, PV.toDs xs = xs.map PV.toD
  | [] => by simp [PV.toDs]
  | x :: xs => by simp [PV.toDs, PV.toDs_map xs]
theorem PV.dats_iff : ∀ {xs : List PV}, PV.dats xs = true ↔ ∀ x ∈ xs, x.dat = true
  | [] => by simp [PV.dats]
  | x :: xs => by simp [PV.dats, PV.dats_iff (xs := xs)]
theorem PV.plain : ∀ x : PV, x.dat = true → x.toD.plain = true := by
  intro x
  have lift : ∀ xs : List PV, (∀ x ∈ xs, x.dat = true → x.toD.plain = true) → PV.dats xs = true → PyData.plainAll (PV.toDs xs) = true := by
    intro xs
    induction xs with
    | nil => intro _ _; simp [PV.toDs, PyData.plainAll]
    | cons y ys ih =>
      intro h d
      simp only [PV.dats, Bool.and_eq_true] at d
      simp only [PV.toDs, PyData.plainAll, Bool.and_eq_true]
      exact ⟨h y List.mem_cons_self d.1, ih (fun z hz => h z (List.mem_cons_of_mem _ hz)) d.2⟩
  induction x using PV.ind with
  | tup xs ih => intro d; simp only [PV.toD, PyData.plain]; exact lift xs ih (by simpa [PV.dat] using d)
  | lst xs ih => intro d; simp only [PV.toD, PyData.plain]; exact lift xs ih (by simpa [PV.dat] using d)
  | dic ks vs ih => intro d; simp [PV.dat] at d
  | ins c fs vs ih => intro d; simp [PV.dat] at d
  | scr ns => intro d; simp [PV.dat] at d
  | ty n => intro d; simp [PV.dat] at d
  | cl n => intro d; simp [PV.dat] at d
  | ref n => intro d; simp [PV.dat] at d
  | _ => intro _; simp [PV.toD, PyData.plain]
theorem rep_dp {cA : Str → Addr} {K : PySem.W.Frag} {ρ Z : List Addr} {H : Hp} : ∀ (x : PV) (v : V), x.dat = true → rep cA K ρ Z H x v → Dp K H v x.toD := by
  intro x
  have lift : ∀ xs : List PV, (∀ x ∈ xs, ∀ v, x.dat = true → rep cA K ρ Z H x v → Dp K H v x.toD) → PV.dats xs = true → ∀ vs, repL cA K ρ Z H xs vs → DpAll K H vs (PV.toDs xs) := by
    intro xs
    induction xs with
    | nil => intro _ _ vs r; unfold repL at r; subst r; simp only [PV.toDs]; exact .nil
    | cons y ys ih =>
      intro h d vs r
      unfold repL at r
      obtain ⟨w, ws, rfl, r1, r2⟩ := r
      simp only [PV.dats, Bool.and_eq_true] at d
      simp only [PV.toDs]
      exact .cons (h y List.mem_cons_self w d.1 r1) (ih (fun z hz => h z (List.mem_cons_of_mem _ hz)) d.2 ws r2)
  induction x using PV.ind with
  | non => intro v _ r; unfold rep at r; subst r; simp only [PV.toD]; exact .non
  | bl b => intro v _ r; unfold rep at r; subst r; simp only [PV.toD]; exact .bl b
  | int i => intro v _ r; unfold rep at r; subst r; simp only [PV.toD]; exact .int i
  | str i => intro v _ r; unfold rep at r; subst r; simp only [PV.toD]; exact .str i
  | tup xs ih =>
    intro v d r
    unfold rep at r
    obtain ⟨a, vs, rfl, h1, hz, h2⟩ := r
    simp only [PV.toD]
    exact .tup h1 (lift xs ih (by simpa [PV.dat] using d) vs h2)
  | lst xs ih =>
    intro v d r
    unfold rep at r
    obtain ⟨a, vs, rfl, h1, _, hz, h2⟩ := r
    simp only [PV.toD]
    exact .lst (.inl (.inl h1)) (lift xs ih (by simpa [PV.dat] using d) vs h2)
  | dic ks vs ih => intro v d; simp [PV.dat] at d
  | ins c fs vs ih => intro v d; simp [PV.dat] at d
  | scr ns => intro v d; simp [PV.dat] at d
  | ty n => intro v d; simp [PV.dat] at d
  | cl n => intro v d; simp [PV.dat] at d
  | ref n => intro v d; simp [PV.dat] at d

/-! ## a value as data at a heap: its named lists read off -/
/-- the value with all places looked up, where it is data not too deep -/
def datOf (h : AH) (x : PV) : Option PV := if x.dat = true then (if Nat.ble x.toD.depth 120 = true then some x else none) else match rz 8 h 0 x with
  | some y => if y.dat = true then (if Nat.ble y.toD.depth 120 = true then some y else none) else none
  | none => none
theorem datOf_rep {cA : Str → Addr} {K : PySem.W.Frag} {B : List Nat} {b : Nat} {ρ Z : List Addr} {h : AH} {H : Hp} (G : Good cA K B b ρ Z h H) {x y : PV} {v : V} (r : rep cA K ρ Z H x v) (e : datOf h x = some y) :
    Dp K H v y.toD ∧ y.toD.plain = true ∧ y.toD.depth ≤ 120 := by
  unfold datOf at e
  split at e
  · rename_i hd
    split at e
    · rename_i hb
      cases e
      exact ⟨rep_dp x v hd r, PV.plain x hd, by simpa [Nat.ble_eq] using hb⟩
    · cases e
  · split at e
    · rename_i z hz
      split at e
      · rename_i hd
        split at e
        · rename_i hb
          cases e
          exact ⟨rep_dp y v hd ((rz_rep G 8).1 x y v hz r), PV.plain y hd, by simpa [Nat.ble_eq] using hb⟩
        · cases e
      · cases e
    · cases e

/-! ## ways of operators -/
theorem OpR.or {X : Cx} {f : Value → Value → Sem Value} {r1 r2 : R2} (a : OpR X f r1) (c : OpR X f r2) : OpR X f (fun x y H Q => r1 x y H Q ∨ r2 x y H Q) :=
  fun pins s σ H x y v u Q I rx ry h => h.elim (a pins s σ H x y v u Q I rx ry) (c pins s σ H x y v u Q I rx ry)
theorem CallR.or {X : Cx} {f : Value} {r1 r2 : List V → Hp → VK → Prop} (a : CallR X f r1) (c : CallR X f r2) : CallR X f (fun xs H Q => r1 xs H Q ∨ r2 xs H Q) :=
  fun pins s σ H xs us Q I r h => h.elim (a pins s σ H xs us Q I r) (c pins s σ H xs us Q I r)
theorem IxR.or {X : Cx} {r1 r2 : R2} (a : IxR X r1) (c : IxR X r2) : IxR X (fun x y H Q => r1 x y H Q ∨ r2 x y H Q) :=
  fun value slice pins s σ H x y v u Q I rx ry h => h.elim (a value slice pins s σ H x y v u Q I rx ry) (c value slice pins s σ H x y v u Q I rx ry)
theorem MtR.or {X : Cx} {id : String} {r1 r2 : V → List V → Hp → VK → Prop} (a : MtR X id r1) (c : MtR X id r2) : MtR X id (fun x xs H Q => r1 x xs H Q ∨ r2 x xs H Q) :=
  fun pins s σ H x xs v us Q I rx r h => h.elim (a pins s σ H x xs v us Q I rx r) (c pins s σ H x xs v us Q I rx r)

/-! ## ==, != -/
def rEqP (K : PySem.W.Frag) : R2 := fun x y H Q => ∃ d e, Dp K H x d ∧ Dp K H y e ∧ d.plain = true ∧ e.plain = true ∧ d.depth ≤ 120 ∧ Q (.bl (PyData.eqv d e)) H
def rNeP (K : PySem.W.Frag) : R2 := fun x y H Q => ∃ d e, Dp K H x d ∧ Dp K H y e ∧ d.plain = true ∧ e.plain = true ∧ d.depth ≤ 120 ∧ Q (.bl (!PyData.eqv d e)) H
section
variable {T : Tt} {k : Nat} {N : List Str} {sc : Scope} {X : Cx}
theorem CxOk.un (c : CxOk T k N sc X) : X.A.units + 200 < cLine := by have := c.room.un; omega
theorem op_eqP (hu : X.A.units + 200 < cLine) : OpR X (compareOp .Eq) (rEqP X.K) := by
  intro pins s σ H x y v u Q I rx ry ⟨d, e, hd, he, sd, se, dp, q⟩
  obtain ⟨as, r1⟩ := Dp.reads I d x v hd rx
  obtain ⟨bs, r2⟩ := Dp.reads I e y u he ry
  exact SeqAt.eq_plain r1 r2 sd se (by have := Nat.min_le_left d.depth e.depth; omega) ⟨.bl _, H, I, rfl, q⟩
theorem op_neP (hu : X.A.units + 200 < cLine) : OpR X (compareOp .NotEq) (rNeP X.K) := by
  intro pins s σ H x y v u Q I rx ry ⟨d, e, hd, he, sd, se, dp, q⟩
  obtain ⟨as, r1⟩ := Dp.reads I d x v hd rx
  obtain ⟨bs, r2⟩ := Dp.reads I e y u he ry
  exact SeqAt.ne_plain r1 r2 sd se (by have := Nat.min_le_left d.depth e.depth; omega) ⟨.bl _, H, I, rfl, q⟩
def fEq : PV → PV → Nat → AH → R PV := fun x y _ h => match datOf h x, datOf h y with
  | some d, some e => .ok (.bl (d.eq e)) h
  | _, _ => .bad
def fNe : PV → PV → Nat → AH → R PV := fun x y _ h => match datOf h x, datOf h y with
  | some d, some e => .ok (.bl (!d.eq e)) h
  | _, _ => .bad
theorem rep_bl {ρ Z : List Addr} {H : Hp} {b : Bool} : rep T.cA T.K ρ Z H (.bl b) (.bl b) := by unfold rep; rfl
theorem rep_int {ρ Z : List Addr} {H : Hp} {b : Int} : rep T.cA T.K ρ Z H (.int b) (.int b) := by unfold rep; rfl
theorem rep_str {ρ Z : List Addr} {H : Hp} {b : Str} : rep T.cA T.K ρ Z H (.str b) (.str b) := by unfold rep; rfl
theorem rep_non {ρ Z : List Addr} {H : Hp} : rep T.cA T.K ρ Z H .non .non := by unfold rep; rfl
theorem o2_eq : Op2 T (rEqP T.K) fEq := by
  intro B b ρ Z h H x y v w Q G rx ry p
  unfold fEq at p
  split at p
  · rename_i d e e1 e2
    obtain ⟨a1, a2, a3⟩ := datOf_rep G rx e1
    obtain ⟨b1, b2, b3⟩ := datOf_rep G ry e2
    exact ⟨_, _, a1, b1, a2, b2, a3, p ρ H _ G.nxt rep_bl⟩
  · exact p.elim
theorem o2_ne : Op2 T (rNeP T.K) fNe := by
  intro B b ρ Z h H x y v w Q G rx ry p
  unfold fNe at p
  split at p
  · rename_i d e e1 e2
    obtain ⟨a1, a2, a3⟩ := datOf_rep G rx e1
    obtain ⟨b1, b2, b3⟩ := datOf_rep G ry e2
    exact ⟨_, _, a1, b1, a2, b2, a3, p ρ H _ G.nxt rep_bl⟩
  · exact p.elim
theorem se_eq {a e : Expr} {da de : Dn PV} {pos : Pos} (ha : SE T k N sc a da) (he : SE T k N sc e de) : SE T k N sc (.Compare a [.Eq] [e] pos) (dOp2 fEq da de) :=
  se_cmp (r := rEqP T.K) (fun X c => by rw [← c.hK]; exact op_eqP c.un) o2_eq ha he (nomark _)
theorem se_ne {a e : Expr} {da de : Dn PV} {pos : Pos} (ha : SE T k N sc a da) (he : SE T k N sc e de) : SE T k N sc (.Compare a [.NotEq] [e] pos) (dOp2 fNe da de) :=
  se_cmp (r := rNeP T.K) (fun X c => by rw [← c.hK]; exact op_neP c.un) o2_ne ha he (nomark _)

/-! ## tests -/
def dTv (d : Dn PV) : Dn Bool := fun env b h => (d env b h).bind fun x h1 => match x with
  | .bl t => .ok t h1
  | _ => .bad
def dVt (d : Dn Bool) : Dn PV := fun env b h => (d env b h).bind fun x h1 => .ok (.bl x) h1
/-- how the truth of this expression is asked -/
def IsT (e : Expr) : Prop := ∀ (env : Env) (whole : Sem Value), PySem.isTrue e env whole = do
  let v ← whole
  standAt e.pos
  holding [v] (truthy v)
theorem st_val {e : Expr} {d : Dn PV} (ht : IsT e) (he : SE T k N sc e d) : ST T k N sc e (dTv d) := fun X W c tk =>
  PTimp (pt_val (he X W c tk) (fun whole => ht X.env whole)) fun σ H Q ⟨B, b, ρ, Z, h, env, G, er, p⟩ => ⟨B, b, ρ, Z, h, env, G, er, post.go .postT p fun ρ1 H1 v w h1 n rv q => by
    cases v with
    | bl t => unfold rep at rv; subst rv; exact ⟨t, rfl, q ρ1 H1 n⟩
    | _ => exact q.elim⟩
end
end Mn
end
section
set_option Elab.async false
set_option linter.all false
set_option maxRecDepth 100000
namespace Mn
open PySem PySem.Spec L2

section
variable {T : Tt} {B : List Nat} {b : Nat} {ρ Z : List Addr} {h : AH} {H : Hp} {W : WX} {σ : L2.St}
theorem post0.go {β : Type} {r : R PV} {f : PV → AH → R β} {C : R β → Prop} {Q : VK} (hb : ¬ C .bad) (p : C ((noExc r).bind f))
    (g : ∀ ρ1 H1 v w h1, Nxt T.cA T.K B b ρ Z H ρ1 h1 H1 → rep T.cA T.K ρ1 Z H1 v w → C (f v h1) → Q w H1) : post0 T B b ρ Z H r Q := by
  cases r with
  | ok v h' => exact fun ρ' H' w n r => g ρ' H' v w h' n r p
  | exc fr c as h' => exact (hb p).elim
  | bad => exact (hb p).elim
end
section
variable {T : Tt} {k : Nat} {N : List Str} {sc : Scope}
/-! ## and, or, not -/
def SW (T : Tt) (k : Nat) (N : List Str) (sc : Scope) (e : Expr) (d : Dn Bool) : Prop := ∀ X W, CxOk T k N sc X → TakesT T X W → PW X e (tT T W d)
theorem PWimp {X : Cx} {e : Expr} {t t' : TT} (p : PW X e t) (h : ∀ σ H Q, t' σ H Q → t σ H Q) : PW X e t' := ⟨fun whole pins s σ H Q I q => p.run whole pins s σ H Q I (h σ H Q q)⟩
def dAnd (c d : Dn Bool) : Dn Bool := fun env b h => (c env b h).bind fun t h1 => if t = true then d env b h1 else .ok false h1
def dOr (c d : Dn Bool) : Dn Bool := fun env b h => (c env b h).bind fun t h1 => if t = true then .ok true h1 else d env b h1
def dNot (c : Dn Bool) : Dn Bool := fun env b h => (c env b h).bind fun t h1 => .ok (!t) h1
theorem sw_and1 {a : Expr} {c : Dn Bool} {pos : Pos} (ha : ST T k N sc a c) : SW T k N sc (.BoolOp .And [a] pos) c := fun X W cx tk => pw_and1 (ha X W cx tk)
theorem sw_or1 {a : Expr} {c : Dn Bool} {pos : Pos} (ha : ST T k N sc a c) : SW T k N sc (.BoolOp .Or [a] pos) c := fun X W cx tk => pw_or1 (ha X W cx tk)
theorem sw_and {a e : Expr} {rest : List Expr} {c d : Dn Bool} {pos : Pos} (ha : ST T k N sc a c) (hr : SW T k N sc (.BoolOp .And (e :: rest) pos) d) : SW T k N sc (.BoolOp .And (a :: e :: rest) pos) (dAnd c d) := fun X W cx tk =>
  PWimp (pw_and (ha X W cx tk) (hr X W cx tk)) fun σ H Q ⟨B, b, ρ, Z, h, env, G, er, p⟩ => ⟨B, b, ρ, Z, h, env, G, er, postT.go .postT p fun ρ1 H1 v h1 n q => by
    cases v with
    | true => exact ⟨B, b, ρ1, Z, h1, env, n.good, er.step n G, q.shift n⟩
    | false => exact q ρ1 H1 n⟩
theorem sw_or {a e : Expr} {rest : List Expr} {c d : Dn Bool} {pos : Pos} (ha : ST T k N sc a c) (hr : SW T k N sc (.BoolOp .Or (e :: rest) pos) d) : SW T k N sc (.BoolOp .Or (a :: e :: rest) pos) (dOr c d) := fun X W cx tk =>
  PWimp (pw_or (ha X W cx tk) (hr X W cx tk)) fun σ H Q ⟨B, b, ρ, Z, h, env, G, er, p⟩ => ⟨B, b, ρ, Z, h, env, G, er, postT.go .postT p fun ρ1 H1 v h1 n q => by
    cases v with
    | false => exact ⟨B, b, ρ1, Z, h1, env, n.good, er.step n G, q.shift n⟩
    | true => exact q ρ1 H1 n⟩
theorem st_w {e : Expr} {c : Dn Bool} (hw : SW T k N sc e c) : ST T k N sc e c := fun X W cx tk => (hw X W cx tk).pt
theorem st_not {a : Expr} {c : Dn Bool} {pos : Pos} (ha : ST T k N sc a c) : ST T k N sc (.UnaryOp .Not a pos) (dNot c) := fun X W cx tk =>
  PTimp (pt_not (ha X W cx tk)) fun σ H Q ⟨B, b, ρ, Z, h, env, G, er, p⟩ => ⟨B, b, ρ, Z, h, env, G, er, postT.go .postT p fun ρ1 H1 v h1 n q => q ρ1 H1 n⟩
/-- by value, all but the last True or False -/
def dAndV (d1 d2 : Dn PV) : Dn PV := fun env b h => (d1 env b h).bind fun x h1 => match x with
  | .bl true => d2 env b h1
  | .bl false => .ok (.bl false) h1
  | _ => .bad
def dOrV (d1 d2 : Dn PV) : Dn PV := fun env b h => (d1 env b h).bind fun x h1 => match x with
  | .bl false => d2 env b h1
  | .bl true => .ok (.bl true) h1
  | _ => .bad
def dNotV (d : Dn PV) : Dn PV := fun env b h => (d env b h).bind fun x h1 => match x with
  | .bl t => .ok (.bl (!t)) h1
  | _ => .bad
theorem se_one {a : Expr} {op : BoolOp} {d : Dn PV} {pos : Pos} (ha : SE T k N sc a d) : SE T k N sc (.BoolOp op [a] pos) d := fun X W cx tk => pe_one (ha X W cx tk)
theorem se_and {a e : Expr} {rest : List Expr} {c d : Dn PV} {pos : Pos} (ha : SE T k N sc a c) (hr : SE T k N sc (.BoolOp .And (e :: rest) pos) d) : SE T k N sc (.BoolOp .And (a :: e :: rest) pos) (dAndV c d) := fun X W cx tk =>
  PEimp (pe_and (ha X W cx tk) (hr X W cx tk)) fun σ H Q ⟨B, b, ρ, Z, h, env, G, er, p⟩ => ⟨B, b, ρ, Z, h, env, G, er, post.go .post p fun ρ1 H1 v w h1 n rv q => by
    split at q
    · unfold rep at rv; exact ⟨true, rv, ⟨B, b, ρ1, Z, h1, env, n.good, er.step n G, q.shift n⟩⟩
    · unfold rep at rv; exact ⟨false, rv, q ρ1 H1 _ n rep_bl⟩
    · exact q.elim⟩
theorem se_or {a e : Expr} {rest : List Expr} {c d : Dn PV} {pos : Pos} (ha : SE T k N sc a c) (hr : SE T k N sc (.BoolOp .Or (e :: rest) pos) d) : SE T k N sc (.BoolOp .Or (a :: e :: rest) pos) (dOrV c d) := fun X W cx tk =>
  PEimp (pe_or (ha X W cx tk) (hr X W cx tk)) fun σ H Q ⟨B, b, ρ, Z, h, env, G, er, p⟩ => ⟨B, b, ρ, Z, h, env, G, er, post.go .post p fun ρ1 H1 v w h1 n rv q => by
    split at q
    · unfold rep at rv; exact ⟨false, rv, ⟨B, b, ρ1, Z, h1, env, n.good, er.step n G, q.shift n⟩⟩
    · unfold rep at rv; exact ⟨true, rv, q ρ1 H1 _ n rep_bl⟩
    · exact q.elim⟩
theorem se_not {a : Expr} {d : Dn PV} {pos : Pos} (ha : SE T k N sc a d) : SE T k N sc (.UnaryOp .Not a pos) (dNotV d) := fun X W cx tk =>
  PEimp (pe_not (ha X W cx tk)) fun σ H Q ⟨B, b, ρ, Z, h, env, G, er, p⟩ => ⟨B, b, ρ, Z, h, env, G, er, post.go .post p fun ρ1 H1 v w h1 n rv q => by
    split at q
    · rename_i t; unfold rep at rv; exact ⟨t, rv, q ρ1 H1 _ n rep_bl⟩
    · exact q.elim⟩
def dIfE (c : Dn Bool) (d1 d2 : Dn PV) : Dn PV := fun env b h => (c env b h).bind fun t h1 => if t = true then d1 env b h1 else d2 env b h1
theorem se_ifE {c a e : Expr} {dc : Dn Bool} {d1 d2 : Dn PV} {pos : Pos} (hc : ST T k N sc c dc) (ha : SE T k N sc a d1) (he : SE T k N sc e d2) : SE T k N sc (.IfExp c a e pos) (dIfE dc d1 d2) := fun X W cx tk =>
  PEimp (pe_ifExp (hc X W cx tk) (ha X W cx tk) (he X W cx tk)) fun σ H Q ⟨B, b, ρ, Z, h, env, G, er, p⟩ => ⟨B, b, ρ, Z, h, env, G, er, postT.go .post p fun ρ1 H1 v h1 n q => by
    cases v with
    | true => exact ⟨B, b, ρ1, Z, h1, env, n.good, er.step n G, q.shift n⟩
    | false => exact ⟨B, b, ρ1, Z, h1, env, n.good, er.step n G, q.shift n⟩⟩
/-- a < b < c -/
def dChn (f f' : PV → PV → Nat → AH → R PV) (da db dc : Dn PV) : Dn PV := fun env b h => (da env b h).bind fun x h1 => (db env b h1).bind fun y h2 => (noExc (f x y b h2)).bind fun z h3 => match z with
  | .bl true => (dc env b h3).bind fun w h4 => noExc (f' y w b h4)
  | .bl false => .ok (.bl false) h3
  | _ => .bad
theorem se_chain {op op' : CmpOp} {r r' : R2} {f f' : PV → PV → Nat → AH → R PV} {a e g : Expr} {da de dg : Dn PV} {pos : Pos} (ho : ∀ X, CxOk T k N sc X → OpR X (compareOp op) r) (ho' : ∀ X, CxOk T k N sc X → OpR X (compareOp op') r') (hf : Op2 T r f) (hf' : Op2 T r' f')
    (ha : SE T k N sc a da) (he : SE T k N sc e de) (hg : SE T k N sc g dg) (hm : lastMarks [op, op'] [e, g] = false) : SE T k N sc (.Compare a [op, op'] [e, g] pos) (dChn f f' da de dg) := fun X W cx tk =>
  PEimp (pe_chain (ho X cx) (ho' X cx) (ha X W cx tk) (he X W cx tk) (hg X W cx tk) hm) fun σ H Q ⟨B, b, ρ, Z, h, env, G, er, p⟩ => ⟨B, b, ρ, Z, h, env, G, er, post.go .post p fun ρ1 H1 v w h1 n rv q =>
    ⟨B, b, ρ1, Z, h1, env, n.good, er.step n G, post.go (CK.post.shift n) q fun ρ2 H2 v2 w2 h2 n2 rv2 q2 =>
      hf B b ρ2 Z h2 H2 v v2 w w2 _ n2.good (n2.rep n.good rv) rv2 (post0.go (C := fun r => post T B b ρ Z H W σ r Q) (fun z => z) q2 fun ρ3 H3 v3 w3 h3 n3 rv3 q3 => by
        have n12 := n.trans n2
        have n123 := n12.trans n3
        split at q3
        · unfold rep at rv3
          refine ⟨true, rv3, ?_⟩
          rw [if_pos rfl]
          exact ⟨B, b, ρ3, Z, h3, env, n3.good, (er.step n12 G).step n3 n2.good, post.go (CK.post.shift n123) q3 fun ρ4 H4 v4 w4 h4 n4 rv4 q4 =>
            hf' B b ρ4 Z h4 H4 v2 v4 w2 w4 Q n4.good (n4.rep n3.good (n3.rep n2.good rv2)) rv4 ((q4.shift (n123.trans n4)).to0)⟩
        · unfold rep at rv3
          exact ⟨false, rv3, by rw [if_neg (by simp)]; exact q3 ρ3 H3 _ n123 rep_bl⟩
        · exact q3.elim)⟩⟩

/-! ## whole numbers -/
def fI (c : Int → Int → Bool) (g : Int → Int → PV) : PV → PV → Nat → AH → R PV := fun x y _ h => match x, y with
  | .int i, .int j => if c i j = true then .ok (g i j) h else .bad
  | _, _ => .bad
theorem o2_int {C : Int → Int → Prop} {c : Int → Int → Bool} {g : Int → Int → PV} {g' : Int → Int → V} (hc : ∀ i j, c i j = true → C i j) (hg : ∀ i j ρ Z H, rep T.cA T.K ρ Z H (g i j) (g' i j)) : Op2 T (rI C g') (fI c g) := by
  intro B b ρ Z h H x y v w Q G rx ry p
  unfold fI at p
  split at p
  · rename_i i j
    split at p
    · rename_i hh
      unfold rep at rx ry
      exact ⟨i, j, rx, ry, hc i j hh, p ρ H _ G.nxt (hg i j ρ Z H)⟩
    · exact p.elim
  · exact p.elim
theorem o2_int0 {g : Int → Int → PV} {g' : Int → Int → V} (hg : ∀ i j ρ Z H, rep T.cA T.K ρ Z H (g i j) (g' i j)) : Op2 T (rI0 g') (fI (fun _ _ => true) g) := by
  intro B b ρ Z h H x y v w Q G rx ry p
  unfold fI at p
  split at p
  · rename_i i j
    rw [if_pos rfl] at p
    unfold rep at rx ry
    exact ⟨i, j, rx, ry, p ρ H _ G.nxt (hg i j ρ Z H)⟩
  · exact p.elim
def cT : Int → Int → Bool := fun _ _ => true
abbrev fLt : PV → PV → Nat → AH → R PV := fI (fun _ _ => true) fun i j => .bl (decide (i < j))
abbrev fLe : PV → PV → Nat → AH → R PV := fI (fun _ _ => true) fun i j => .bl (decide (i ≤ j))
abbrev fGt : PV → PV → Nat → AH → R PV := fI (fun _ _ => true) fun i j => .bl (decide (i > j))
abbrev fGe : PV → PV → Nat → AH → R PV := fI (fun _ _ => true) fun i j => .bl (decide (i ≥ j))
theorem o2_lt : Op2 T (rI0 fun i j => V.bl (decide (i < j))) fLt := o2_int0 fun _ _ _ _ _ => rep_bl
theorem o2_le : Op2 T (rI0 fun i j => V.bl (decide (i ≤ j))) fLe := o2_int0 fun _ _ _ _ _ => rep_bl
theorem o2_gt : Op2 T (rI0 fun i j => V.bl (decide (i > j))) fGt := o2_int0 fun _ _ _ _ _ => rep_bl
theorem o2_ge : Op2 T (rI0 fun i j => V.bl (decide (i ≥ j))) fGe := o2_int0 fun _ _ _ _ _ => rep_bl
theorem se_lt {a e : Expr} {da de : Dn PV} {pos : Pos} (ha : SE T k N sc a da) (he : SE T k N sc e de) : SE T k N sc (.Compare a [.Lt] [e] pos) (dOp2 fLt da de) := se_cmp (fun X c => op_lt) o2_lt ha he (nomark _)
theorem se_le {a e : Expr} {da de : Dn PV} {pos : Pos} (ha : SE T k N sc a da) (he : SE T k N sc e de) : SE T k N sc (.Compare a [.LtE] [e] pos) (dOp2 fLe da de) := se_cmp (fun X c => op_le) o2_le ha he (nomark _)
theorem se_gt {a e : Expr} {da de : Dn PV} {pos : Pos} (ha : SE T k N sc a da) (he : SE T k N sc e de) : SE T k N sc (.Compare a [.Gt] [e] pos) (dOp2 fGt da de) := se_cmp (fun X c => op_gt) o2_gt ha he (nomark _)
theorem se_ge {a e : Expr} {da de : Dn PV} {pos : Pos} (ha : SE T k N sc a da) (he : SE T k N sc e de) : SE T k N sc (.Compare a [.GtE] [e] pos) (dOp2 fGe da de) := se_cmp (fun X c => op_ge) o2_ge ha he (nomark _)
theorem se_leLt {a e g : Expr} {da de dg : Dn PV} {pos : Pos} (ha : SE T k N sc a da) (he : SE T k N sc e de) (hg : SE T k N sc g dg) (hm : lastMarks [.LtE, .Lt] [e, g] = false) : SE T k N sc (.Compare a [.LtE, .Lt] [e, g] pos) (dChn fLe fLt da de dg) := se_chain (fun X c => op_le) (fun X c => op_lt) o2_le o2_lt ha he hg hm
theorem se_leLe {a e g : Expr} {da de dg : Dn PV} {pos : Pos} (ha : SE T k N sc a da) (he : SE T k N sc e de) (hg : SE T k N sc g dg) (hm : lastMarks [.LtE, .LtE] [e, g] = false) : SE T k N sc (.Compare a [.LtE, .LtE] [e, g] pos) (dChn fLe fLe da de dg) := se_chain (fun X c => op_le) (fun X c => op_le) o2_le o2_le ha he hg hm
def fSub : PV → PV → Nat → AH → R PV := fI (fun _ _ => true) fun i j => .int (i - j)
theorem se_sub {a e : Expr} {da de : Dn PV} {pos : Pos} (ha : SE T k N sc a da) (he : SE T k N sc e de) : SE T k N sc (.BinOp a .Sub e pos) (dOp2 fSub da de) := se_op2 (fun X c => op_sub) (o2_int0 fun _ _ _ _ _ => rep_int) ha he
def cMul (i j : Int) : Bool := (decide (-(2 ^ 64) < i) && decide (i < 2 ^ 64)) || (decide (-(2 ^ 64) < j) && decide (j < 2 ^ 64))
def cDiv (_ j : Int) : Bool := decide (0 < j) && decide (j < 1073741824)
def cMod (_ j : Int) : Bool := decide (0 < j)
def fDiv : PV → PV → Nat → AH → R PV := fI cDiv fun i j => .int (i / j)
def fMod : PV → PV → Nat → AH → R PV := fI cMod fun i j => .int (i % j)
theorem se_div {a e : Expr} {da de : Dn PV} {pos : Pos} (ha : SE T k N sc a da) (he : SE T k N sc e de) : SE T k N sc (.BinOp a .FloorDiv e pos) (dOp2 fDiv da de) :=
  se_op2 (fun X c => op_fdiv) (o2_int (fun i j h => by simpa [cDiv, CDiv] using h) fun _ _ _ _ _ => rep_int) ha he
theorem se_mod {a e : Expr} {da de : Dn PV} {pos : Pos} (ha : SE T k N sc a da) (he : SE T k N sc e de) : SE T k N sc (.BinOp a .Mod e pos) (dOp2 fMod da de) :=
  se_op2 (fun X c => op_mod) (o2_int (fun i j h => by simpa [cMod] using h) fun _ _ _ _ _ => rep_int) ha he

/-! ## lists, tuples as wholes -/
def lstOf (h : AH) : PV → Option (List PV)
  | .lst xs => some xs
  | .ref n => match h[n]? with
    | some (.lst xs) => some xs
    | _ => none
  | _ => none
theorem lstOf_rep {B : List Nat} {b : Nat} {ρ Z : List Addr} {h : AH} {H : Hp} (G : Good T.cA T.K B b ρ Z h H) {x : PV} {v : V} {xs : List PV} (r : rep T.cA T.K ρ Z H x v) (e : lstOf h x = some xs) :
    ∃ a vs, v = .ref a ∧ H a = some (.lst vs) ∧ xs.length ≤ sizeLine ∧ repL T.cA T.K ρ Z H xs vs := by
  cases x with
  | lst ys =>
    cases e
    unfold rep at r
    obtain ⟨a, vs, e, h1, _, hz, h2⟩ := r
    exact ⟨a, vs, e, h1, hz, h2⟩
  | ref n =>
    simp only [lstOf] at e
    split at e
    · rename_i ys q
      cases e
      unfold rep at r
      obtain ⟨a, ea, h1⟩ := r
      obtain ⟨vs, h2, hz, h3⟩ := G.obj n a _ h1 q
      exact ⟨a, vs, ea, h2, hz, h3⟩
    · cases e
  | _ => cases e
theorem tup_rep {ρ Z : List Addr} {H : Hp} {xs : List PV} {v : V} (r : rep T.cA T.K ρ Z H (.tup xs) v) : ∃ a vs, v = .ref a ∧ SqT T.K H a vs ∧ xs.length ≤ sizeLine ∧ repL T.cA T.K ρ Z H xs vs := by unfold rep at r; exact r
theorem rep_tup {ρ Z : List Addr} {H : Hp} {xs : List PV} {a : Addr} {vs : List V} (h1 : SqT T.K H a vs) (hz : xs.length ≤ sizeLine) (h2 : repL T.cA T.K ρ Z H xs vs) : rep T.cA T.K ρ Z H (.tup xs) (.ref a) := by unfold rep; exact ⟨a, vs, rfl, h1, hz, h2⟩
def rAdd (K : PySem.W.Frag) : R2 := fun x y H Q => (rI0 fun i j => V.int (i + j)) x y H Q ∨ (∃ i j, x = V.str i ∧ y = V.str j ∧ i.length + j.length ≤ sizeLine ∧ Q (V.str (i ++ j)) H) ∨ rCat x y H Q ∨ rCatA K x y H Q
def fAdd (m : Bool) : PV → PV → Nat → AH → R PV := fun x y _ h => match x, y with
  | .int i, .int j => .ok (.int (i + j)) h
  | .str i, .str j => if szOk (i.length + j.length) = true then .ok (.str (i ++ j)) h else .bad
  | .tup xs, .tup ys => if szOk (xs.length + ys.length) = true then .ok (.tup (xs ++ ys)) h else .bad
  | x, y => match lstOf h x, lstOf h y with
    | some xs, some ys => if szOk (xs.length + ys.length) = true then mkL m (xs ++ ys) h else .bad
    | _, _ => .bad
theorem repL_nil_iff {ρ Z : List Addr} {H : Hp} {xs : List PV} {vs : List V} (r : repL T.cA T.K ρ Z H xs vs) : vs = [] ↔ xs = [] := by
  have := r.length
  constructor
  · rintro rfl; exact List.length_eq_zero_iff.mp this
  · rintro rfl; exact List.length_eq_zero_iff.mp this.symm
theorem o2_add {m : Bool} : Op2 T (rAdd T.K) (fAdd m) := by
  intro B b ρ Z h H x y v w Q G rx ry p
  unfold fAdd at p
  split at p
  · rename_i i j
    unfold rep at rx ry
    exact .inl ⟨i, j, rx, ry, p ρ H _ G.nxt rep_int⟩
  · rename_i i j
    split at p
    · rename_i hz
      unfold rep at rx ry
      exact .inr (.inl ⟨i, j, rx, ry, szOk_iff.mp hz, p ρ H _ G.nxt rep_str⟩)
    · exact p.elim
  · rename_i xs ys
    split at p
    · rename_i hz
      obtain ⟨a, vs, rfl, h1, z1, r1⟩ := tup_rep rx
      obtain ⟨c, ws, rfl, h2, z2, r2⟩ := tup_rep ry
      have hz' := szOk_iff.mp hz
      refine .inr (.inr (.inr ⟨a, c, vs, ws, rfl, rfl, h1, h2, by rw [← r1.length, ← r2.length]; exact hz', fun e => ?_, fun _ e => ?_, fun _ _ p' hp => ?_⟩))
      · obtain rfl := (repL_nil_iff r1).mp e
        exact p ρ H _ G.nxt (rep_tup h2 (by simpa using z2) (by simpa using r2))
      · obtain rfl := (repL_nil_iff r2).mp e
        exact p ρ H _ G.nxt (rep_tup h1 (by simpa using z1) (by simpa using r1))
      · exact mkT_ok (by simpa using hz') G hp (r1.append r2) p
    · exact p.elim
  · split at p
    · rename_i xs ys e1 e2
      split at p
      · rename_i hz
        obtain ⟨a, vs, rfl, h1, z1, r1⟩ := lstOf_rep G rx e1
        obtain ⟨c, ws, rfl, h2, z2, r2⟩ := lstOf_rep G ry e2
        have hz' := szOk_iff.mp hz
        exact .inr (.inr (.inl ⟨a, c, vs, ws, rfl, rfl, h1, h2, by rw [← r1.length, ← r2.length]; exact hz', fun p' hp => mkL_ok (by simpa using hz') G hp (r1.append r2) p⟩))
      · exact p.elim
    · exact p.elim
theorem op_addP {X : Cx} : OpR X (binaryOp .Add) (rAdd X.K) := OpR.or op_add (OpR.or op_add_str (OpR.or op_cat op_catA))
theorem se_add {m : Bool} {a e : Expr} {da de : Dn PV} {pos : Pos} (ha : SE T k N sc a da) (he : SE T k N sc e de) : SE T k N sc (.BinOp a .Add e pos) (dOp2 (fAdd m) da de) :=
  se_op2 (r := rAdd T.K) (fun X c => by rw [← c.hK]; exact op_addP) o2_add ha he
/-- number * number, list * number -/
def rMul : R2 := fun x y H Q => rI CMul (fun i j => V.int (i * j)) x y H Q ∨ rRep x y H Q
def fMul (m : Bool) : PV → PV → Nat → AH → R PV := fun x y _ h => match x, y with
  | .int i, .int j => if cMul i j = true then .ok (.int (i * j)) h else .bad
  | x, .int j => match lstOf h x with
    | some xs => if (decide (-(2 ^ 63) ≤ j) && decide (j < 2 ^ 63) && szOk (xs.length * j.toNat)) = true then mkL m (List.replicate j.toNat xs).flatten h else .bad
    | none => .bad
  | _, _ => .bad
theorem repL_rep {ρ Z : List Addr} {H : Hp} {xs : List PV} {vs : List V} (r : repL T.cA T.K ρ Z H xs vs) : ∀ n : Nat, repL T.cA T.K ρ Z H (List.replicate n xs).flatten (List.replicate n vs).flatten
  | 0 => by simp; exact .nil
  | n + 1 => by simp only [List.replicate_succ, List.flatten_cons]; exact r.append (repL_rep r n)
theorem len_rep {α : Type} (xs : List α) : ∀ n : Nat, (List.replicate n xs).flatten.length = xs.length * n
  | 0 => by simp
  | n + 1 => by simp only [List.replicate_succ, List.flatten_cons, List.length_append, len_rep xs n]; rw [Nat.mul_succ]; omega
theorem o2_mul {m : Bool} : Op2 T rMul (fMul m) := by
  intro B b ρ Z h H x y v w Q G rx ry p
  unfold fMul at p
  split at p
  · rename_i i j
    split at p
    · rename_i hc
      unfold rep at rx ry
      exact .inl ⟨i, j, rx, ry, by simpa [cMul, CMul] using hc, p ρ H _ G.nxt rep_int⟩
    · exact p.elim
  · rename_i j _
    split at p
    · rename_i xs e1
      split at p
      · rename_i hc
        simp only [Bool.and_eq_true, decide_eq_true_eq] at hc
        obtain ⟨a, vs, rfl, h1, z1, r1⟩ := lstOf_rep G rx e1
        unfold rep at ry
        have hz' := szOk_iff.mp hc.2
        exact .inr ⟨a, j, vs, rfl, ry, h1, hc.1.1, hc.1.2, by rw [← r1.length]; exact hz', fun p' hp => mkL_ok (by rw [len_rep]; exact hz') G hp (repL_rep r1 _) p⟩
      · exact p.elim
    · exact p.elim
  · exact p.elim
theorem se_mul {m : Bool} {a e : Expr} {da de : Dn PV} {pos : Pos} (ha : SE T k N sc a da) (he : SE T k N sc e de) : SE T k N sc (.BinOp a .Mult e pos) (dOp2 (fMul m) da de) :=
  se_op2 (r := rMul) (fun X c => OpR.or op_mul op_rep) o2_mul ha he
/-- i ** j -/
def cPow (i j : Int) : Bool := decide (0 ≤ j) && decide (j ≤ 1000000) && decide (i.natAbs < 2 ^ 64)
def fPow : PV → PV → Nat → AH → R PV := fI cPow fun i j => .int (i ^ j.toNat)
/-! ## is None -/
def PV.isN : PV → Bool
  | .non => true
  | _ => false
def fIs : PV → PV → Nat → AH → R PV := fun x y _ h => match y with
  | .non => .ok (.bl x.isN) h
  | _ => .bad
def fIsNot : PV → PV → Nat → AH → R PV := fun x y _ h => match y with
  | .non => .ok (.bl (!x.isN)) h
  | _ => .bad
theorem rep_isN {ρ Z : List Addr} {H : Hp} {x : PV} {v : V} (r : rep T.cA T.K ρ Z H x v) : decide (v = V.non) = x.isN := by
  cases x <;> unfold rep at r
  case non => subst r; rfl
  case bl => subst r; rfl
  case int => subst r; rfl
  case str => subst r; rfl
  case ty => subst r; rfl
  case cl => subst r; rfl
  all_goals (obtain ⟨a, r⟩ := r)
  case tup => obtain ⟨_, rfl, _⟩ := r; rfl
  case lst => obtain ⟨_, rfl, _⟩ := r; rfl
  case dic => obtain ⟨_, rfl, _⟩ := r; rfl
  case ins => obtain ⟨_, _, rfl, _⟩ := r; rfl
  case scr => obtain ⟨_, rfl, _⟩ := r; rfl
  case ref => obtain ⟨rfl, _⟩ := r; rfl
theorem se_is {a e : Expr} {da de : Dn PV} {pos : Pos} (ha : SE T k N sc a da) (he : SE T k N sc e de) : SE T k N sc (.Compare a [.Is] [e] pos) (dOp2 fIs da de) :=
  se_cmp (fun X c => op_isN) (by
    intro B b ρ Z h H x y v w Q G rx ry p
    unfold fIs at p
    split at p
    · unfold rep at ry
      exact ⟨ry, by rw [rep_isN rx]; exact p ρ H _ G.nxt rep_bl⟩
    · exact p.elim) ha he (nomark _)
theorem se_isnot {a e : Expr} {da de : Dn PV} {pos : Pos} (ha : SE T k N sc a da) (he : SE T k N sc e de) : SE T k N sc (.Compare a [.IsNot] [e] pos) (dOp2 fIsNot da de) :=
  se_cmp (fun X c => op_notN) (by
    intro B b ρ Z h H x y v w Q G rx ry p
    unfold fIsNot at p
    split at p
    · unfold rep at ry
      exact ⟨ry, by rw [rep_isN rx]; exact p ρ H _ G.nxt rep_bl⟩
    · exact p.elim) ha he (nomark _)
end
end Mn
end
section
set_option Elab.async false
set_option linter.all false
set_option maxRecDepth 100000
namespace Mn
open PySem PySem.Spec L2

/-! ## dicts as rows of keys and values -/
def keyOf : PV → Option Key
  | .int i => some (.inl i)
  | .str s => some (.inr s)
  | _ => none
def dGetP : List Key → List PV → Key → Option PV
  | k' :: ks, v :: vs, k => if k' = k then some v else dGetP ks vs k
  | _, _, _ => none
def dSetP : List Key → List PV → Key → PV → List PV
  | k' :: ks, v' :: vs, k, v => (if k' = k then v else v') :: dSetP ks vs k v
  | _, _, _, _ => []
section
variable {T : Tt} {B : List Nat} {b : Nat} {ρ Z : List Addr} {h : AH} {H : Hp}
theorem keyOf_rep {x : PV} {v : V} {k : Key} (r : rep T.cA T.K ρ Z H x v) (e : keyOf x = some k) : v = kV k := by
  cases x <;> simp only [keyOf, reduceCtorEq, Option.some.injEq] at e
  all_goals (subst e; unfold rep at r; exact r)
theorem dGetP_some : ∀ {ks : List Key} {vs : List PV} {ws : List V} {k : Key} {v : PV}, repL T.cA T.K ρ Z H vs ws → dGetP ks vs k = some v → ∃ w, valV (ks.zip ws) k = some w ∧ rep T.cA T.K ρ Z H v w
  | [], _, _, _, _, _, e => by simp [dGetP] at e
  | _ :: _, [], _, _, _, _, e => by simp [dGetP] at e
  | k' :: ks, v' :: vs, ws, k, v, r, e => by
    unfold repL at r
    obtain ⟨w, ws', rfl, h1, h2⟩ := r
    simp only [dGetP] at e
    by_cases q : k' = k
    · rw [if_pos q] at e
      cases e
      exact ⟨w, by simp [valV, q], h1⟩
    · rw [if_neg q] at e
      obtain ⟨w', e1, r1⟩ := dGetP_some h2 e
      refine ⟨w', ?_, r1⟩
      unfold valV at e1 ⊢
      rw [List.zip_cons_cons, List.find?_cons_of_neg (by simpa using q)]
      exact e1
theorem dGetP_none : ∀ {ks : List Key} {vs : List PV} {ws : List V} {k : Key}, ks.length = ws.length → repL T.cA T.K ρ Z H vs ws → dGetP ks vs k = none → valV (ks.zip ws) k = none
  | [], _, _, _, _, _, _ => rfl
  | k' :: ks, [], ws, _, l, r, _ => by unfold repL at r; subst r; cases l
  | k' :: ks, v' :: vs, ws, k, l, r, e => by
    unfold repL at r
    obtain ⟨w, ws', rfl, h1, h2⟩ := r
    simp only [dGetP] at e
    by_cases q : k' = k
    · rw [if_pos q] at e; cases e
    · rw [if_neg q] at e
      have e1 := dGetP_none (by simpa using l) h2 e
      unfold valV at e1 ⊢
      rw [List.zip_cons_cons, List.find?_cons_of_neg (by simpa using q)]
      exact e1
/-- the dict that a value names -/
def dicOf (h : AH) : PV → Option (List Key × List PV)
  | .dic ks vs => some (ks, vs)
  | .ref n => match h[n]? with
    | some (.dic ks vs) => some (ks, vs)
    | _ => none
  | _ => none
theorem dicOf_rep (G : Good T.cA T.K B b ρ Z h H) {x : PV} {v : V} {ks : List Key} {xs : List PV} (r : rep T.cA T.K ρ Z H x v) (e : dicOf h x = some (ks, xs)) :
    ∃ a vs, v = .ref a ∧ H a = some (.dK (ks.zip vs)) ∧ ks.length = vs.length ∧ repL T.cA T.K ρ Z H xs vs := by
  cases x with
  | dic ks' ys =>
    cases e
    unfold rep at r
    obtain ⟨a, vs, e, h1, hl, _, h2⟩ := r
    exact ⟨a, vs, e, h1, hl, h2⟩
  | ref n =>
    simp only [dicOf] at e
    split at e
    · rename_i ks' ys q
      cases e
      unfold rep at r
      obtain ⟨a, ea, h1⟩ := r
      obtain ⟨vs, h2, hz, h3⟩ := G.obj n a _ h1 q
      exact ⟨a, vs, ea, h2, hz, h3⟩
    · cases e
  | _ => cases e
end

/-! ## in, not in -/
def rInP (K : PySem.W.Frag) (ng : Bool) : R2 := fun x y H Q => (∃ c z, x = V.str { cps := #[c] } ∧ y = V.str z ∧ Q (V.bl (ng ^^ decide (c ∈ z.cps.toList))) H) ∨
  (∃ d es, Dp K H x d ∧ (Dp K H y (.tuple es) ∨ Dp K H y (.list es)) ∧ d.plain = true ∧ PyData.plainAll es = true ∧ d.depth ≤ 120 ∧ Q (.bl (ng ^^ es.any fun e => PyData.eqv e d)) H) ∨
  (∃ a o, y = .ref a ∧ DGet H a x o ∧ Q (.bl (ng ^^ o.isSome)) H)
theorem bx1 (c : Bool) : (true ^^ c) = !c := by cases c <;> rfl
theorem bx0 (c : Bool) : (false ^^ c) = c := by cases c <;> rfl
section
variable {X : Cx}
theorem op_inP (hu : X.A.units + 200 < cLine) : OpR X (compareOp .In) (rInP X.K false) := by
  intro pins s σ H x y v u Q I rx ry hh
  rcases hh with ⟨c, z, rfl, rfl, q⟩ | ⟨d, es, hd, he, sd, se, dp, q⟩ | ⟨a, o, rfl, g, q⟩
  · rw [bx0] at q
    exact op_in_sign pins s σ H _ _ v u Q I rx ry ⟨c, z, rfl, rfl, q⟩
  · rw [bx0] at q
    obtain ⟨as, r1⟩ := Dp.reads I d x v hd rx
    have hm := Nat.min_le_right (PyData.depthAll es) d.depth
    rcases he with he | he
    · obtain ⟨bs, r2⟩ := Dp.reads I _ y u he ry
      exact SeqAt.in_tuple_data r2 r1 se sd (by omega) ⟨.bl _, H, I, rfl, q⟩
    · obtain ⟨bs, r2⟩ := Dp.reads I _ y u he ry
      exact SeqAt.in_list_data r2 r1 se sd (by omega) ⟨.bl _, H, I, rfl, q⟩
  · rw [bx0] at q
    obtain rfl : u = Value.ref a := ry
    exact d_in (by omega) I g rx fun s' I' => ⟨.bl _, H, I', rfl, q⟩
theorem op_notInP (hu : X.A.units + 200 < cLine) : OpR X (compareOp .NotIn) (rInP X.K true) := by
  intro pins s σ H x y v u Q I rx ry hh
  rcases hh with ⟨c, z, rfl, rfl, q⟩ | ⟨d, es, hd, he, sd, se, dp, q⟩ | ⟨a, o, rfl, g, q⟩
  · rw [bx1] at q
    exact op_notIn_sign pins s σ H _ _ v u Q I rx ry ⟨c, z, rfl, rfl, q⟩
  · rw [bx1] at q
    obtain ⟨as, r1⟩ := Dp.reads I d x v hd rx
    have hm := Nat.min_le_right (PyData.depthAll es) d.depth
    rcases he with he | he
    · obtain ⟨bs, r2⟩ := Dp.reads I _ y u he ry
      exact SeqAt.notIn_tuple_data r2 r1 se sd (by omega) ⟨.bl _, H, I, rfl, q⟩
    · obtain ⟨bs, r2⟩ := Dp.reads I _ y u he ry
      exact SeqAt.notIn_list_data r2 r1 se sd (by omega) ⟨.bl _, H, I, rfl, q⟩
  · rw [bx1] at q
    obtain rfl : u = Value.ref a := ry
    exact d_notIn (by omega) I g rx fun s' I' => ⟨.bl _, H, I', rfl, q⟩
end
section
variable {T : Tt} {k : Nat} {N : List Str} {sc : Scope}
/-- x in y -/
def inP (h : AH) (x y : PV) : Option Bool := match dicOf h y with
  | some (ks, vs) => (keyOf x).map fun k => (dGetP ks vs k).isSome
  | none => match y with
    | .str z => match x with
      | .str c => (match c.cps.toList with
        | [c] => some (decide (c ∈ z.cps.toList))
        | _ => none)
      | _ => none
    | y => match datOf h x, datOf h y with
      | some d, some (.tup es) => some (es.any fun e => e.eq d)
      | some d, some (.lst es) => some (es.any fun e => e.eq d)
      | _, _ => none
def fIn (ng : Bool) : PV → PV → Nat → AH → R PV := fun x y _ h => match inP h x y with
  | some t => .ok (.bl (ng ^^ t)) h
  | none => .bad
theorem any_toDs (es : List PV) (d : PV) : (PV.toDs es).any (fun e => PyData.eqv e d.toD) = es.any fun e => e.eq d := by
  rw [PV.toDs_map, List.any_map]; rfl
theorem o2_in {ng : Bool} : Op2 T (rInP T.K ng) (fIn ng) := by
  intro B b ρ Z h H x y v w Q G rx ry p
  unfold fIn at p
  split at p
  · rename_i t e
    unfold inP at e
    split at e
    · rename_i ks vs ed
      obtain ⟨k, ek, rfl⟩ := Option.map_eq_some_iff.mp e
      obtain ⟨a, ws, rfl, h1, hl, r1⟩ := dicOf_rep G ry ed
      have ev := keyOf_rep rx ek
      refine .inr (.inr ⟨a, valV (ks.zip ws) k, rfl, .inl ⟨_, k, .inl h1, ev, rfl⟩, ?_⟩)
      have es : (valV (ks.zip ws) k).isSome = (dGetP ks vs k).isSome := by
        cases q : dGetP ks vs k with
        | none => rw [dGetP_none hl r1 q]; rfl
        | some z => obtain ⟨w, e1, _⟩ := dGetP_some r1 q; rw [e1]; rfl
      rw [es]
      exact p ρ H _ G.nxt rep_bl
    · split at e
      · split at e
        · rename_i z _ _ c
          split at e
          · rename_i c' ec
            cases e
            unfold rep at rx ry
            subst rx ry
            refine .inl ⟨c', z, ?_, rfl, p ρ H _ G.nxt rep_bl⟩
            congr 1
            have : c.cps = #[c'] := by rw [← Array.toList_inj, ec]
            cases c; simp_all
          · cases e
        · cases e
      · split at e
        · rename_i d es e1 e2
          cases e
          obtain ⟨a1, a2, a3⟩ := datOf_rep G rx e1
          obtain ⟨b1, b2, b3⟩ := datOf_rep G ry e2
          refine .inr (.inl ⟨d.toD, PV.toDs es, a1, .inl (by simpa [PV.toD] using b1), a2, by simpa [PV.toD, PyData.plain] using b2, a3, ?_⟩)
          rw [any_toDs]
          exact p ρ H _ G.nxt rep_bl
        · rename_i d es e1 e2
          cases e
          obtain ⟨a1, a2, a3⟩ := datOf_rep G rx e1
          obtain ⟨b1, b2, b3⟩ := datOf_rep G ry e2
          refine .inr (.inl ⟨d.toD, PV.toDs es, a1, .inr (by simpa [PV.toD] using b1), a2, by simpa [PV.toD, PyData.plain] using b2, a3, ?_⟩)
          rw [any_toDs]
          exact p ρ H _ G.nxt rep_bl
        · cases e
  · exact p.elim
theorem se_in {a e : Expr} {da de : Dn PV} {pos : Pos} (ha : SE T k N sc a da) (he : SE T k N sc e de) (hm : behindInMarks .In e = false) : SE T k N sc (.Compare a [.In] [e] pos) (dOp2 (fIn false) da de) :=
  se_cmp (r := rInP T.K false) (fun X c => by rw [← c.hK]; exact op_inP c.un) o2_in ha he hm
theorem se_notin {a e : Expr} {da de : Dn PV} {pos : Pos} (ha : SE T k N sc a da) (he : SE T k N sc e de) (hm : behindInMarks .NotIn e = false) : SE T k N sc (.Compare a [.NotIn] [e] pos) (dOp2 (fIn true) da de) :=
  se_cmp (r := rInP T.K true) (fun X c => by rw [← c.hK]; exact op_notInP c.un) o2_in ha he hm

/-! ## subscripts -/
def rIxP (K : PySem.W.Frag) : R2 := fun x y H Q => rIx K x y H Q ∨ ∃ a v, x = .ref a ∧ DGet H a y (some v) ∧ Q v H
theorem ix_dic {X : Cx} (hu : X.A.units + 1 < cLine) : IxR X (fun x y H Q => ∃ a v, x = .ref a ∧ DGet H a y (some v) ∧ Q v H) := by
  intro value slice pins s σ H x y v u Q I rx ry ⟨a, w, e, g, q⟩ hs
  subst e
  obtain rfl : v = Value.ref a := rx
  exact PyProof.Rows.tail_any (dict_typeIs I g) PySem.F.slot_dict_getitem.lookup (d_getItem hu I g ry fun w' s' I' rw' => ⟨w, H, I', rw', q⟩) hs
theorem ix_P {X : Cx} (hu : X.A.units + 200 < cLine) : IxR X (rIxP X.K) := IxR.or ix_seq (ix_dic (by omega))
def ixP (h : AH) (x y : PV) : Option PV := match dicOf h x with
  | some (ks, vs) => (keyOf y).bind fun k => dGetP ks vs k
  | none => match y with
    | .int i => match x with
      | .tup xs => atI xs i
      | .str z => if szOk z.length = true then (atI z.cps.toList i).map fun c => .str ⟨#[c]⟩ else none
      | .scr ns => (atI ns i).map .int
      | x => (lstOf h x).bind fun xs => atI xs i
    | _ => none
def fIx : PV → PV → Nat → AH → R PV := fun x y _ h => match ixP h x y with
  | some v => .ok v h
  | none => .bad
theorem atI_rep {ρ Z : List Addr} {H : Hp} {xs : List PV} {vs : List V} {i : Int} {x : PV} (r : repL T.cA T.K ρ Z H xs vs) (e : atI xs i = some x) : ∃ v, atI vs i = some v ∧ rep T.cA T.K ρ Z H x v := by
  unfold atI at e ⊢
  rw [← r.length]
  obtain ⟨j, e1, e2⟩ := Option.bind_eq_some_iff.mp e
  rw [e1]
  exact r.get e2
theorem o2_ix : Op2 T (rIxP T.K) fIx := by
  intro B b ρ Z h H x y v w Q G rx ry p
  unfold fIx at p
  split at p
  · rename_i z e
    unfold ixP at e
    split at e
    · rename_i ks vs ed
      obtain ⟨k, ek, eg⟩ := Option.bind_eq_some_iff.mp e
      obtain ⟨a, ws, rfl, h1, hl, r1⟩ := dicOf_rep G rx ed
      obtain ⟨z', e1, rz⟩ := dGetP_some r1 eg
      exact .inr ⟨a, z', rfl, .inl ⟨_, k, .inl h1, keyOf_rep ry ek, e1.symm⟩, p ρ H _ G.nxt rz⟩
    · split at e
      · rename_i i
        unfold rep at ry
        subst ry
        split at e
        · rename_i xs
          obtain ⟨a, vs, rfl, h1, z1, r1⟩ := tup_rep rx
          obtain ⟨z', e1, rz⟩ := atI_rep r1 e
          exact .inl (.inr (.inl ⟨a, vs, i, z', rfl, rfl, h1, e1, p ρ H _ G.nxt rz⟩))
        · rename_i s _
          split at e
          · rename_i hz
            obtain ⟨c, e1, rfl⟩ := Option.map_eq_some_iff.mp e
            unfold rep at rx
            exact .inl (.inr (.inr ⟨s, i, c, rx, rfl, szOk_iff.mp hz, e1, p ρ H _ G.nxt rep_str⟩))
          · cases e
        · rename_i ns _
          obtain ⟨n, e1, rfl⟩ := Option.map_eq_some_iff.mp e
          unfold rep at rx
          obtain ⟨a, o, rfl, h1, _⟩ := rx
          refine .inl (.inl ⟨a, ns.map V.int, i, .int n, rfl, rfl, .inl (.inr ⟨o, h1⟩), ?_, p ρ H _ G.nxt rep_int⟩)
          unfold atI at e1 ⊢
          obtain ⟨j, e2, e3⟩ := Option.bind_eq_some_iff.mp e1
          rw [List.length_map, e2]
          simp [e3]
        · obtain ⟨xs, e0, e1⟩ := Option.bind_eq_some_iff.mp e
          obtain ⟨a, vs, rfl, h1, z1, r1⟩ := lstOf_rep G rx e0
          obtain ⟨z', e2, rz⟩ := atI_rep r1 e1
          exact .inl (.inl ⟨a, vs, i, z', rfl, rfl, .inl (.inl h1), e2, p ρ H _ G.nxt rz⟩)
      · cases e
  · exact p.elim
theorem se_ixP {a e : Expr} {da de : Dn PV} {pos : Pos} (ha : SE T k N sc a da) (he : SE T k N sc e de) (hs : PlainIx e) : SE T k N sc (.Subscript a e pos) (dOp2 fIx da de) :=
  se_ix (r := rIxP T.K) (fun X c => by rw [← c.hK]; exact ix_P c.un) o2_ix ha he hs

/-! ## slices -/
def postO (T : Tt) (B : List Nat) (b : Nat) (ρ Z : List Addr) (H : Hp) (W : WX) (σ : L2.St) (r : R (Option Int)) (Q : Option Int → Hp → Prop) : Prop := match r with
  | .ok v h' => ∀ ρ' H', Nxt T.cA T.K B b ρ Z H ρ' h' H' → Q v H'
  | .exc fr c as h' => (T.m = true → fr = true) ∧ ∀ ρ' H' cls dd, Nxt T.cA T.K B b ρ Z H ρ' h' H' → excR T c as cls dd H' → W cls dd σ H'
  | .bad => False
def SO (T : Tt) (k : Nat) (N : List Str) (sc : Scope) (e : Option Expr) (d : EnvP → Nat → AH → R (Option Int)) : Prop := ∀ X W, CxOk T k N sc X → TakesT T X W →
  PO X e (fun σ H Q => ∃ B b ρ Z h env, Good T.cA T.K B b ρ Z h H ∧ envR T ρ Z H env σ ∧ postO T B b ρ Z H W σ (d env b h) Q)
def dPart (d : Dn PV) : EnvP → Nat → AH → R (Option Int) := fun env b h => (d env b h).bind fun x h1 => match x with
  | .int i => .ok (some i) h1
  | _ => .bad
def dNoPart : EnvP → Nat → AH → R (Option Int) := fun _ _ h => .ok none h
theorem so_none : SO T k N sc none dNoPart := fun X W c tk => ⟨fun pins s σ H Q I ⟨B, b, ρ, Z, h, env, G, er, p⟩ => po_none.run pins s σ H Q I (p ρ H G.nxt)⟩
theorem so_some {e : Expr} {d : Dn PV} (he : SE T k N sc e d) : SO T k N sc (some e) (dPart d) := fun X W c tk => ⟨fun pins s σ H Q I ⟨B, b, ρ, Z, h, env, G, er, p⟩ => by
  refine (po_some (he X W c tk)).run pins s σ H Q I ⟨B, b, ρ, Z, h, env, G, er, ?_⟩
  revert p
  unfold dPart
  cases d env b h with
  | bad => exact fun p => p
  | exc fr c as h' => exact fun p => p
  | ok v h' =>
    intro p
    simp only [R.bind_ok] at p
    cases v with
    | int i => intro ρ' H' w n r; unfold rep at r; exact ⟨i, r, p ρ' H' n⟩
    | _ => exact p.elim⟩
def cutP (m : Bool) (h : AH) (x : PV) (lo hi : Option Int) : R PV := match x with
  | .tup xs => .ok (.tup (if HT.sIx xs.length 0 lo = 0 ∧ HT.sIx xs.length xs.length hi = xs.length then xs else ((xs.drop (HT.sIx xs.length 0 lo)).take (HT.sIx xs.length xs.length hi - HT.sIx xs.length 0 lo)))) h
  | .str z => if szOk z.length = true then .ok (.str (cutS z lo hi)) h else .bad
  | x => match lstOf h x with
    | some xs => mkL m ((xs.drop (HT.sIx xs.length 0 lo)).take (HT.sIx xs.length xs.length hi - HT.sIx xs.length 0 lo)) h
    | none => .bad
theorem repL_drop {ρ Z : List Addr} {H : Hp} : ∀ (n : Nat) {xs : List PV} {vs : List V}, repL T.cA T.K ρ Z H xs vs → repL T.cA T.K ρ Z H (xs.drop n) (vs.drop n)
  | 0, xs, vs, r => by simpa using r
  | n + 1, [], vs, r => by unfold repL at r; subst r; simp; exact .nil
  | n + 1, x :: xs, vs, r => by
    unfold repL at r
    obtain ⟨w, ws, rfl, h1, h2⟩ := r
    simpa using repL_drop n h2
theorem repL_taken {ρ Z : List Addr} {H : Hp} : ∀ (n : Nat) {xs : List PV} {vs : List V}, repL T.cA T.K ρ Z H xs vs → repL T.cA T.K ρ Z H (xs.take n) (vs.take n)
  | 0, xs, vs, r => by simp; exact .nil
  | n + 1, [], vs, r => by unfold repL at r; subst r; simp; exact .nil
  | n + 1, x :: xs, vs, r => by
    unfold repL at r
    obtain ⟨w, ws, rfl, h1, h2⟩ := r
    simp only [List.take_succ_cons]
    exact repL_cons.mpr ⟨h1, repL_taken n h2⟩
def rSlP (K : PySem.W.Frag) : V → Option Int → Option Int → Hp → VK → Prop := fun x lo hi H Q => rSlA K x lo hi H Q ∨ rSlS x lo hi H Q ∨ rSlL K x lo hi H Q
theorem SlR.or {X : Cx} {r1 r2 : V → Option Int → Option Int → Hp → VK → Prop} (a : SlR X r1) (c : SlR X r2) : SlR X (fun x lo hi H Q => r1 x lo hi H Q ∨ r2 x lo hi H Q) :=
  fun pins s σ H x v vl vu lo hi sl Q I rx hs pl pu h => h.elim (a pins s σ H x v vl vu lo hi sl Q I rx hs pl pu) (c pins s σ H x v vl vu lo hi sl Q I rx hs pl pu)
theorem sl_P {X : Cx} : SlR X (rSlP X.K) := SlR.or sl_tupA (SlR.or sl_str sl_list)
theorem cut_ok {m : Bool} {B : List Nat} {b : Nat} {ρ Z : List Addr} {h : AH} {H : Hp} {x : PV} {v : V} {lo hi : Option Int} {Q : VK} (G : Good T.cA T.K B b ρ Z h H) (rx : rep T.cA T.K ρ Z H x v) (p : post0 T B b ρ Z H (cutP m h x lo hi) Q) : rSlP T.K v lo hi H Q := by
  unfold cutP at p
  split at p
  · rename_i xs
    obtain ⟨a, vs, rfl, h1, z1, r1⟩ := tup_rep rx
    have l := r1.length
    refine .inl ⟨a, vs, rfl, h1, fun e => ?_, fun e p' hp => ?_⟩
    · rw [l] at p
      rw [if_pos e] at p
      exact p ρ H _ G.nxt rx
    · rw [l] at p
      rw [if_neg e] at p
      refine mkT_ok ?_ G hp (repL_taken _ (repL_drop _ r1)) p
      have := List.length_take_le (HT.sIx vs.length vs.length hi - HT.sIx vs.length 0 lo) (xs.drop (HT.sIx vs.length 0 lo))
      have h2 : (xs.drop (HT.sIx vs.length 0 lo)).length ≤ xs.length := by simp
      have h3 : (List.take (HT.sIx vs.length vs.length hi - HT.sIx vs.length 0 lo) (xs.drop (HT.sIx vs.length 0 lo))).length ≤ (xs.drop (HT.sIx vs.length 0 lo)).length := by rw [List.length_take]; omega
      omega
  · rename_i z
    split at p
    · rename_i hz
      unfold rep at rx
      exact .inr (.inl ⟨z, rx, szOk_iff.mp hz, p ρ H _ G.nxt rep_str⟩)
    · exact p.elim
  · split at p
    · rename_i xs e
      obtain ⟨a, vs, rfl, h1, z1, r1⟩ := lstOf_rep G rx e
      have l := r1.length
      refine .inr (.inr ⟨a, vs, rfl, .inl (.inl h1), fun p' hp => ?_⟩)
      rw [l] at p
      refine mkL_ok ?_ G hp (repL_taken _ (repL_drop _ r1)) p
      have h2 : (xs.drop (HT.sIx vs.length 0 lo)).length ≤ xs.length := by simp
      have h3 : (List.take (HT.sIx vs.length vs.length hi - HT.sIx vs.length 0 lo) (xs.drop (HT.sIx vs.length 0 lo))).length ≤ (xs.drop (HT.sIx vs.length 0 lo)).length := by rw [List.length_take]; omega
      omega
    · exact p.elim
def dSl (m : Bool) (d : Dn PV) (dl dh : EnvP → Nat → AH → R (Option Int)) : Dn PV := fun env b h => (d env b h).bind fun x h1 => (dl env b h1).bind fun lo h2 => (dh env b h2).bind fun hi h3 => noExc (cutP m h3 x lo hi)
theorem goO {β : Type} {B : List Nat} {b : Nat} {ρ Z : List Addr} {H : Hp} {W : WX} {σ : L2.St} {r : R (Option Int)} {f : Option Int → AH → R β} {C : R β → Prop} {Q : Option Int → Hp → Prop} (ck : CK T B b ρ Z H W σ C) (p : C (r.bind f))
    (g : ∀ ρ1 H1 v h1, Nxt T.cA T.K B b ρ Z H ρ1 h1 H1 → C (f v h1) → Q v H1) : postO T B b ρ Z H W σ r Q := by
  cases r with
  | ok v h' => exact fun ρ' H' n => g ρ' H' v h' n p
  | exc fr c as h' => exact ck.exc fr c as h' p
  | bad => exact ck.bad p
theorem se_slice {m : Bool} {e : Expr} {lo hi : Option Expr} {d : Dn PV} {dl dh : EnvP → Nat → AH → R (Option Int)} {pos p2 : Pos} (he : SE T k N sc e d) (hl : SO T k N sc lo dl) (hh : SO T k N sc hi dh) : SE T k N sc (.Subscript e (.Slice lo hi none p2) pos) (dSl m d dl dh) := fun X W c tk =>
  PEimp (pe_slice (r := rSlP X.K) sl_P (he X W c tk) (hl X W c tk) (hh X W c tk)) fun σ H Q ⟨B, b, ρ, Z, h, env, G, er, p⟩ => ⟨B, b, ρ, Z, h, env, G, er, post.go .post p fun ρ1 H1 v w h1 n rv q =>
    ⟨B, b, ρ1, Z, h1, env, n.good, er.step n G, goO (CK.post.shift n) q fun ρ2 H2 v2 h2 n2 q2 => ⟨B, b, ρ2, Z, h2, env, n2.good, (er.step n G).step n2 n.good, goO (CK.post.shift (n.trans n2)) q2 fun ρ3 H3 v3 h3 n3 q3 => by
      rw [c.hK]
      exact cut_ok n3.good (n3.rep n2.good (n2.rep n.good rv)) ((q3.shift (n.trans (n2.trans n3))).to0)⟩⟩⟩
end
end Mn
end
section
set_option Elab.async false
set_option linter.all false
set_option maxRecDepth 100000
namespace Mn
open PySem PySem.Spec L2

/-! ## writing -/
def okW (b n : Nat) (y : PV) : Bool := Nat.ble b n || y.low (n + 1)
def okWs (b n : Nat) (ys : List PV) : Bool := Nat.ble b n || PV.lowL (n + 1) ys
section
variable {T : Tt} {B : List Nat} {b : Nat} {ρ Z : List Addr} {h : AH} {H : Hp} {Q : VK}
theorem okW_low (G : Good T.cA T.K B b ρ Z h H) {n : Nat} {y : PV} (o : okW b n y = true) : ∀ c ∈ B, n < c → y.low c = true := by
  intro c hc hn
  simp only [okW, Bool.or_eq_true, Nat.ble_eq] at o
  rcases o with o | o
  · have := G.bs c hc; omega
  · exact PV.low_mono hn y o
theorem okWs_low (G : Good T.cA T.K B b ρ Z h H) {n : Nat} {ys : List PV} (o : okWs b n ys = true) : ∀ c ∈ B, n < c → PV.lowL c ys = true := by
  intro c hc hn
  simp only [okWs, Bool.or_eq_true, Nat.ble_eq] at o
  rcases o with o | o
  · have := G.bs c hc; omega
  · exact low_of_le hn o
theorem lowL_append {c : Nat} {xs ys : List PV} : PV.lowL c (xs ++ ys) = true ↔ PV.lowL c xs = true ∧ PV.lowL c ys = true := by
  simp only [PV.lowL_iff, List.mem_append]
  exact ⟨fun h => ⟨fun x hx => h x (.inl hx), fun x hx => h x (.inr hx)⟩, fun h x hx => hx.elim (h.1 x) (h.2 x)⟩
theorem wr_lst {n : Nat} {xs ys : List PV} {ws : List V} {a : Addr} (G : Good T.cA T.K B b ρ Z h H) (ea : ρ[n]? = some a) (e : h[n]? = some (.lst xs)) (hz : ys.length ≤ sizeLine) (r : repL T.cA T.K ρ Z H ys ws) (hl : ∀ c ∈ B, n < c → PV.lowL c ys = true) :
    Nxt T.cA T.K B b ρ Z H ρ (h.set n (.lst ys)) (upd H a (.lst ws)) :=
  G.write ea e ⟨ws, upd_same, hz, repL_step (step_write (List.mem_of_getElem? ea)) G.written r⟩ hl
theorem ref_rep {n : Nat} {v : V} (r : rep T.cA T.K ρ Z H (.ref n) v) : ∃ a, v = .ref a ∧ ρ[n]? = some a := by unfold rep at r; exact r
end

/-! ## methods of lists -/
def OpM (T : Tt) (r : V → List V → Hp → VK → Prop) (f : PV → List PV → Nat → AH → R PV) : Prop :=
  ∀ B b ρ Z h H x v vs ws Q, Good T.cA T.K B b ρ Z h H → rep T.cA T.K ρ Z H x v → repL T.cA T.K ρ Z H vs ws → post0 T B b ρ Z H (f x vs b h) Q → r v ws H Q
/-- what a method's receiver is -/
def TyM (T : Tt) (t : String) (chk : AH → PV → Bool) : Prop := ∀ B b ρ Z h H x v, Good T.cA T.K B b ρ Z h H → rep T.cA T.K ρ Z H x v → chk h x = true → tyV T.K t v H
def isL (h : AH) (x : PV) : Bool := (lstOf h x).isSome
theorem ty_lst {T : Tt} : TyM T "list" isL := by
  intro B b ρ Z h H x v G r e
  obtain ⟨xs, e⟩ := Option.isSome_iff_exists.mp e
  obtain ⟨a, vs, rfl, h1, z1, r1⟩ := lstOf_rep G r e
  exact .inl ⟨rfl, vs, .inl (.inl h1)⟩
def dBm (chk : AH → PV → Bool) (f : PV → List PV → Nat → AH → R PV) (d : Dn PV) (ds : Dn (List PV)) : Dn PV := fun env b h => (d env b h).bind fun x h1 => if chk h1 x = true then (ds env b h1).bind fun xs h2 => noExc (f x xs b h2) else .bad
section
variable {T : Tt} {k : Nat} {N : List Str} {sc : Scope}
theorem all_star {es : List Expr} {env : Env} {pos : Pos} (h : es.all notStar = true) : (backTo pos (starEach es env)).all (fun x => !x.1) = true := by
  rw [List.all_eq_true]
  intro p hp
  have := List.any_eq_false.mp (backTo_plain (es := es) (env := env) (pos := pos) h) p hp
  simpa using this
theorem se_bm {o e : Expr} {es : List Expr} {name : Str} {apos cpos : Pos} {t id : String} {chk : AH → PV → Bool} {r : V → List V → Hp → VK → Prop} {f : PV → List PV → Nat → AH → R PV} {d : Dn PV} {ds : Dn (List PV)} (hp : PlainAttrs t) (hsl : Slot t name id)
    (ht : typeOf (Value.builtin id) = pure (Value.type "method_descriptor")) (hr : ∀ X, CxOk T k N sc X → MtR X id r) (hf : OpM T r f) (hc : TyM T t chk) (ho : SE T k N sc o d) (ha : SA T k N sc (e :: es) ds) (hs : notSuper o = true) (hl : (apos.endLine == cpos.line) = true)
    (hn : Nat.blt (e :: es).length 29 = true) (ns : notStar e = true) (nss : es.all notStar = true) : SE T k N sc (.Call (.Attribute o name apos) (e :: es) [] cpos) (dBm chk f d ds) := fun X W c tk => by
  have n30 : (e :: es).length < 29 := by simpa [Nat.blt_eq] using hn
  refine PEimp (pe_bm hp hsl ht (hr X c) (ho X W c tk) (ha X W c tk) (attBase hs) (by
    rw [all_star (by simp [ns, nss])]
    simp [backToKw, keywordEach]
    simp at n30
    omega) hl (starEach_cons ns) (backTo_plain nss)) fun σ H Q ⟨B, b, ρ, Z, h, env, G, er, p⟩ => ⟨B, b, ρ, Z, h, env, G, er, post.go .post p fun ρ1 H1 v w h1 n rv q => ?_⟩
  split at q
  · rename_i hk
    refine ⟨by rw [c.hK]; exact hc B b ρ1 Z h1 H1 v w n.good rv hk, B, b, ρ1, Z, h1, env, n.good, er.step n G, postA.go (CK.post.shift n) q fun ρ2 H2 xs ws h2 n2 rs q2 => ?_⟩
    exact hf B b ρ2 Z h2 H2 v w xs ws Q n2.good (n2.rep n.good rv) rs ((q2.shift (n.trans n2)).to0)
  · exact q.elim
theorem se_bm0 {o : Expr} {name : Str} {apos cpos : Pos} {t id : String} {chk : AH → PV → Bool} {r : V → List V → Hp → VK → Prop} {f : PV → List PV → Nat → AH → R PV} {d : Dn PV} (hp : PlainAttrs t) (hsl : Slot t name id)
    (ht : typeOf (Value.builtin id) = pure (Value.type "method_descriptor")) (hr : ∀ X, CxOk T k N sc X → MtR X id r) (hf : OpM T r f) (hc : TyM T t chk) (ho : SE T k N sc o d) (hs : notSuper o = true) (hl : (apos.endLine == cpos.line) = true) :
    SE T k N sc (.Call (.Attribute o name apos) [] [] cpos) (dBm chk f d dNil) := fun X W c tk => by
  refine PEimp (pe_bm0 hp hsl ht (hr X c) (ho X W c tk) (attBase hs) hl) fun σ H Q ⟨B, b, ρ, Z, h, env, G, er, p⟩ => ⟨B, b, ρ, Z, h, env, G, er, post.go .post p fun ρ1 H1 v w h1 n rv q => ?_⟩
  split at q
  · rename_i hk
    simp only [dNil, R.bind_ok] at q
    exact ⟨by rw [c.hK]; exact hc B b ρ1 Z h1 H1 v w n.good rv hk, hf B b ρ1 Z h1 H1 v w [] [] Q n.good rv .nil ((q.shift n).to0)⟩
  · exact q.elim
/-! append -/
def fAppend : PV → List PV → Nat → AH → R PV := fun x ys b h => match x, ys with
  | .ref n, [y] => match h[n]? with
    | some (.lst xs) => if (szOk (xs.length + 1) && okW b n y) = true then .ok .non (h.set n (.lst (xs ++ [y]))) else .bad
    | _ => .bad
  | _, _ => .bad
theorem om_append : OpM T rAppend fAppend := by
  intro B b ρ Z h H x v vs ws Q G rx rs p
  unfold fAppend at p
  split at p
  · rename_i n y
    split at p
    · rename_i xs e
      split at p
      · rename_i hc
        simp only [Bool.and_eq_true] at hc
        obtain ⟨a, rfl, ea⟩ := ref_rep rx
        obtain ⟨vs, h1, z1, r1⟩ := G.obj n a _ ea e
        unfold repL at rs
        obtain ⟨w, ws', rfl, rw1, rn⟩ := rs
        unfold repL at rn
        subst rn
        have hz := szOk_iff.mp hc.1
        refine ⟨a, vs, w, rfl, rfl, h1, by rw [← r1.length]; omega, p ρ _ .non (wr_lst G ea e (by simpa using hz) (r1.append (.one rw1)) fun c hcB hn => lowL_append.mpr ⟨G.cl c hcB n _ hn e, ?_⟩) rep_non⟩
        simp only [PV.lowL, Bool.and_true]
        exact okW_low G hc.2 c hcB hn
      · exact p.elim
    · exact p.elim
  · exact p.elim
theorem se_append {o e : Expr} {apos cpos : Pos} {d : Dn PV} {ds : Dn (List PV)} (ho : SE T k N sc o d) (ha : SA T k N sc [e] ds) (hs : notSuper o = true) (hl : (apos.endLine == cpos.line) = true) (ns : notStar e = true) :
    SE T k N sc (.Call (.Attribute o "append" apos) [e] [] cpos) (dBm isL fAppend d ds) :=
  se_bm PySem.F.plainAttrs_list PySem.F.slot_list_append PySem.F.type_list_append (fun X c => mt_append) om_append ty_lst ho ha hs hl (by rfl) ns (by rfl)
/-! extend -/
def fExtend : PV → List PV → Nat → AH → R PV := fun x ys b h => match x, ys with
  | .ref n, [y] => match h[n]? with
    | some (.lst xs) => (match lstOf h y with
      | some zs => if (szOk (xs.length + zs.length) && okWs b n zs) = true then .ok .non (h.set n (.lst (xs ++ zs))) else .bad
      | none => .bad)
    | _ => .bad
  | _, _ => .bad
theorem om_extend : OpM T rExtend fExtend := by
  intro B b ρ Z h H x v vs ws Q G rx rs p
  unfold fExtend at p
  split at p
  · rename_i n y
    split at p
    · rename_i xs e
      split at p
      · rename_i zs ez
        split at p
        · rename_i hc
          simp only [Bool.and_eq_true] at hc
          obtain ⟨a, rfl, ea⟩ := ref_rep rx
          obtain ⟨vs, h1, z1, r1⟩ := G.obj n a _ ea e
          unfold repL at rs
          obtain ⟨w, ws', rfl, rw1, rn⟩ := rs
          unfold repL at rn
          subst rn
          obtain ⟨c2, us, rfl, h2, z2, r2⟩ := lstOf_rep G rw1 ez
          have hz := szOk_iff.mp hc.1
          refine ⟨a, c2, vs, us, rfl, rfl, h1, h2, by rw [← r1.length, ← r2.length]; exact hz, p ρ _ .non (wr_lst G ea e (by simpa using hz) (r1.append r2) fun c hcB hn => lowL_append.mpr ⟨G.cl c hcB n _ hn e, ?_⟩) rep_non⟩
          exact okWs_low G hc.2 c hcB hn
        · exact p.elim
      · exact p.elim
    · exact p.elim
  · exact p.elim
theorem se_extend {o e : Expr} {apos cpos : Pos} {d : Dn PV} {ds : Dn (List PV)} (ho : SE T k N sc o d) (ha : SA T k N sc [e] ds) (hs : notSuper o = true) (hl : (apos.endLine == cpos.line) = true) (ns : notStar e = true) :
    SE T k N sc (.Call (.Attribute o "extend" apos) [e] [] cpos) (dBm isL fExtend d ds) :=
  se_bm PySem.F.plainAttrs_list PySem.F.slot_list_extend PySem.F.type_list_extend (fun X c => mt_extend) om_extend ty_lst ho ha hs hl (by rfl) ns (by rfl)
/-! pop -/
def fPop : PV → List PV → Nat → AH → R PV := fun x ys b h => match x, ys with
  | .ref n, [] => match h[n]? with
    | some (.lst xs) => (match xs[xs.length - 1]? with
      | some y => .ok y (h.set n (.lst xs.dropLast))
      | none => .bad)
    | _ => .bad
  | _, _ => .bad
theorem repL_dropLast {ρ Z : List Addr} {H : Hp} {xs : List PV} {vs : List V} (r : repL T.cA T.K ρ Z H xs vs) : repL T.cA T.K ρ Z H xs.dropLast vs.dropLast := by
  rw [List.dropLast_eq_take, List.dropLast_eq_take, r.length]
  exact repL_taken _ r
theorem lowL_sub {c : Nat} {xs ys : List PV} (h : PV.lowL c xs = true) (hs : ∀ y ∈ ys, y ∈ xs) : PV.lowL c ys = true := PV.lowL_iff.mpr fun y hy => PV.lowL_iff.mp h y (hs y hy)
theorem om_pop : OpM T rPop fPop := by
  intro B b ρ Z h H x v vs ws Q G rx rs p
  unfold fPop at p
  split at p
  · rename_i n
    split at p
    · rename_i xs e
      split at p
      · rename_i y ey
        obtain ⟨a, rfl, ea⟩ := ref_rep rx
        obtain ⟨vs, h1, z1, r1⟩ := G.obj n a _ ea e
        unfold repL at rs
        subst rs
        obtain ⟨w, ew, rw1⟩ := r1.get ey
        have nx := wr_lst G ea e (ys := xs.dropLast) (ws := vs.dropLast) (by rw [List.length_dropLast]; omega) (repL_dropLast r1) fun c hcB hn => lowL_sub (G.cl c hcB n _ hn e) fun y hy => (List.dropLast_subset _ hy)
        exact ⟨a, vs, w, rfl, rfl, h1, by rw [← r1.length]; exact ew, p ρ _ w nx (nx.rep G rw1)⟩
      · exact p.elim
    · exact p.elim
  · exact p.elim
theorem se_pop {o : Expr} {apos cpos : Pos} {d : Dn PV} (ho : SE T k N sc o d) (hs : notSuper o = true) (hl : (apos.endLine == cpos.line) = true) :
    SE T k N sc (.Call (.Attribute o "pop" apos) [] [] cpos) (dBm isL fPop d dNil) :=
  se_bm0 PySem.F.plainAttrs_list PySem.F.slot_list_pop PySem.F.type_list_pop (fun X c => mt_pop) om_pop ty_lst ho hs hl
/-! pop(i) -/
def fPopAt : PV → List PV → Nat → AH → R PV := fun x ys b h => match x, ys with
  | .ref n, [.int i] => match h[n]? with
    | some (.lst xs) => if (decide (-(2 ^ 63) ≤ i) && decide (i < 2 ^ 63)) = true then (match seqIndex? i xs.length with
      | some j => (match xs[j]? with
        | some y => .ok y (h.set n (.lst (xs.eraseIdx j)))
        | none => .bad)
      | none => .bad) else .bad
    | _ => .bad
  | _, _ => .bad
theorem repL_erase {ρ Z : List Addr} {H : Hp} : ∀ (j : Nat) {xs : List PV} {vs : List V}, repL T.cA T.K ρ Z H xs vs → repL T.cA T.K ρ Z H (xs.eraseIdx j) (vs.eraseIdx j)
  | j, [], vs, r => by unfold repL at r; subst r; simp; exact .nil
  | 0, x :: xs, vs, r => by unfold repL at r; obtain ⟨w, ws, rfl, h1, h2⟩ := r; simpa using h2
  | j + 1, x :: xs, vs, r => by
    unfold repL at r; obtain ⟨w, ws, rfl, h1, h2⟩ := r
    simp only [List.eraseIdx_cons_succ]
    exact repL_cons.mpr ⟨h1, repL_erase j h2⟩
theorem om_popAt : OpM T rPopAt fPopAt := by
  intro B b ρ Z h H x v vs ws Q G rx rs p
  unfold fPopAt at p
  split at p
  · rename_i n i
    split at p
    · rename_i xs e
      split at p
      · rename_i hc
        simp only [Bool.and_eq_true, decide_eq_true_eq] at hc
        split at p
        · rename_i j ej
          split at p
          · rename_i y ey
            obtain ⟨a, rfl, ea⟩ := ref_rep rx
            obtain ⟨vs, h1, z1, r1⟩ := G.obj n a _ ea e
            unfold repL at rs
            obtain ⟨wi, ws', rfl, rw0, rn⟩ := rs
            unfold repL at rn
            subst rn
            unfold rep at rw0
            subst rw0
            obtain ⟨w, ew, rw1⟩ := r1.get ey
            have nx := wr_lst G ea e (ys := xs.eraseIdx j) (ws := vs.eraseIdx j) (by have := List.length_eraseIdx_le xs j; omega) (repL_erase j r1) fun c hcB hn => lowL_sub (G.cl c hcB n _ hn e) fun y hy => List.mem_of_mem_eraseIdx hy
            exact ⟨a, vs, i, j, w, rfl, rfl, h1, hc.1, hc.2, by rw [← r1.length]; exact ej, ew, p ρ _ w nx (nx.rep G rw1)⟩
          · exact p.elim
        · exact p.elim
      · exact p.elim
    · exact p.elim
  · exact p.elim
theorem se_popAt {o e : Expr} {apos cpos : Pos} {d : Dn PV} {ds : Dn (List PV)} (ho : SE T k N sc o d) (ha : SA T k N sc [e] ds) (hs : notSuper o = true) (hl : (apos.endLine == cpos.line) = true) (ns : notStar e = true) :
    SE T k N sc (.Call (.Attribute o "pop" apos) [e] [] cpos) (dBm isL fPopAt d ds) :=
  se_bm PySem.F.plainAttrs_list PySem.F.slot_list_pop PySem.F.type_list_pop (fun X c => mt_popAt) om_popAt ty_lst ho ha hs hl (by rfl) ns (by rfl)
/-! index -/
def idxP : List PV → PV → Option Nat
  | [], _ => none
  | x :: xs, y => if x.eq y = true then some 0 else (idxP xs y).map (· + 1)
def fIndex : PV → List PV → Nat → AH → R PV := fun x ys b h => match ys with
  | [y] => match datOf h x, datOf h y with
    | some (.lst xs), some d => (match idxP xs d with
      | some j => .ok (.int j) h
      | none => .bad)
    | _, _ => .bad
  | _ => .bad
def rIndexP (K : PySem.W.Frag) : V → List V → Hp → VK → Prop := fun x xs H Q => ∃ (a : Addr) (y : V) (d : PyData) (ds : List PyData) (j : Nat) (z : PyData), x = V.ref a ∧ xs = [y] ∧ Dp K H (V.ref a) (.list ds) ∧ Dp K H y d ∧
  PyData.plainAll ds = true ∧ d.plain = true ∧ d.depth ≤ 120 ∧ ds[j]? = some z ∧ PyData.eqv z d = true ∧ (∀ (m : Nat) (z' : PyData), m < j → ds[m]? = some z' → PyData.eqv z' d = false) ∧ Q (.int (j : Nat)) H
theorem mt_indexP {X : Cx} (hu : X.A.units + 200 < cLine) : MtR X "list.index" (rIndexP X.K) := by
  intro pins s σ H x xs v us Q I rx rxs ⟨a, y, d, ds, j, z, ex, exs, hl, hy, sl, sd, dp, hz, hzj, hno, q⟩
  subst ex exs
  obtain rfl : v = Value.ref a := rx
  cases rxs with
  | cons ry rt =>
    rename_i uy ut
    cases rt
    obtain ⟨bs, ry1⟩ := Dp.reads I d y uy hy ry
    cases hl with
    | lst hs ha =>
      obtain ⟨its, rv, ⟨⟨cls, dd, data, sls⟩, n, ho, hc, hdn, hdt⟩, hlen⟩ := I.list hs
      simp only at hc hdt
      subst hc hdt
      obtain ⟨as, rall⟩ := Dp.readsAll I ds _ its ha rv
      have rall' : ReadsAll s.heap its.toArray.toList ds as := rall
      have hn : its.length = ds.length := SeqAt.ReadsAll.length ds its as rall
      have hvl := rv.length
      have hsl := sizeLine_eq
      obtain ⟨hjd, hjz⟩ := List.getElem?_eq_some_iff.mp hz
      have hj : j < its.toArray.size := by simp; omega
      have hm := Nat.min_le_right (PyData.depthAll ds) d.depth
      refine call_meets PySem.F.slot_list_index ⟨_, ho, rfl⟩ PySem.F.entry_list_index (PySem.F.args_list_index_2 _ _)
        (SeqAt.list_indexAt a its.toArray n dd sls uy (fun u => PyData.eqv (SeqAt.readOf s.heap u) d) j hj (by omega) ?_ ?_)
        ⟨ho, SeqAt.items_plain rall' ry1 sl sd (by omega), ⟨.int (j : Nat), H, I.tok _, ⟨_, rfl⟩, q⟩⟩
      · obtain ⟨_, e⟩ := SeqAt.readOf_at rall' sl j hj
        show PyData.eqv (SeqAt.readOf s.heap its.toArray[j]) d = true
        rw [e, hjz]
        exact hzj
      · intro m hm hmj
        obtain ⟨hm2, e⟩ := SeqAt.readOf_at rall' sl m hm
        show PyData.eqv (SeqAt.readOf s.heap its.toArray[m]) d = false
        rw [e]
        exact hno m _ hmj (List.getElem?_eq_getElem hm2)
theorem idxP_spec : ∀ {xs : List PV} {y : PV} {j : Nat}, idxP xs y = some j → ∃ x, xs[j]? = some x ∧ x.eq y = true ∧ ∀ m x', m < j → xs[m]? = some x' → x'.eq y = false
  | [], _, _, e => by cases e
  | x :: xs, y, j, e => by
    simp only [idxP] at e
    split at e
    · rename_i hx
      cases e
      exact ⟨x, rfl, hx, fun m _ hm => absurd hm (Nat.not_lt_zero _)⟩
    · rename_i hx
      obtain ⟨i, ei, rfl⟩ := Option.map_eq_some_iff.mp e
      obtain ⟨x', h1, h2, h3⟩ := idxP_spec ei
      refine ⟨x', by simpa using h1, h2, fun m z hm ez => ?_⟩
      cases m with
      | zero => simp at ez; subst ez; simpa using hx
      | succ m => exact h3 m z (by omega) (by simpa using ez)
theorem om_index : OpM T (rIndexP T.K) fIndex := by
  intro B b ρ Z h H x v vs ws Q G rx rs p
  unfold fIndex at p
  split at p
  · rename_i y
    split at p
    · rename_i xs d e1 e2
      split at p
      · rename_i j ej
        unfold repL at rs
        obtain ⟨w, ws', rfl, rw1, rn⟩ := rs
        unfold repL at rn
        subst rn
        obtain ⟨a1, a2, a3⟩ := datOf_rep G rx e1
        obtain ⟨b1, b2, b3⟩ := datOf_rep G rw1 e2
        obtain ⟨z, z1, z2, z3⟩ := idxP_spec ej
        simp only [PV.toD] at a1
        have hv : ∃ a, v = V.ref a := by cases a1 with | lst h1 h2 => exact ⟨_, rfl⟩
        obtain ⟨a, rfl⟩ := hv
        refine ⟨a, w, d.toD, PV.toDs xs, j, z.toD, rfl, rfl, a1, b1, by simpa [PV.toD, PyData.plain] using a2, b2, b3, by rw [PV.toDs_map, List.getElem?_map, z1]; rfl, z2, fun m z' hm e => ?_, p ρ H _ G.nxt rep_int⟩
        rw [PV.toDs_map, List.getElem?_map] at e
        obtain ⟨x', e1, rfl⟩ := Option.map_eq_some_iff.mp e
        exact z3 m x' hm e1
      · exact p.elim
    · exact p.elim
  · exact p.elim
theorem se_index {o e : Expr} {apos cpos : Pos} {d : Dn PV} {ds : Dn (List PV)} (ho : SE T k N sc o d) (ha : SA T k N sc [e] ds) (hs : notSuper o = true) (hl : (apos.endLine == cpos.line) = true) (ns : notStar e = true) :
    SE T k N sc (.Call (.Attribute o "index" apos) [e] [] cpos) (dBm isL fIndex d ds) :=
  se_bm (r := rIndexP T.K) PySem.F.plainAttrs_list PySem.F.slot_list_index PySem.F.type_list_index (fun X c => by rw [← c.hK]; exact mt_indexP c.un) om_index ty_lst ho ha hs hl (by rfl) ns (by rfl)
end
end Mn
end
section
set_option Elab.async false
set_option linter.all false
set_option maxRecDepth 100000
namespace Mn
open PySem PySem.Spec L2

section
variable {T : Tt} {k : Nat} {N : List Str} {sc : Scope}
theorem Op1 {ρ Z : List Addr} {H : Hp} {x : PV} {ws : List V} (r : repL T.cA T.K ρ Z H [x] ws) : ∃ w, ws = [w] ∧ rep T.cA T.K ρ Z H x w := by
  unfold repL at r
  obtain ⟨w, ws', rfl, h1, h2⟩ := r
  unfold repL at h2
  subst h2
  exact ⟨w, rfl, h1⟩
theorem Op1' {ρ Z : List Addr} {H : Hp} {x y : PV} {ws : List V} (r : repL T.cA T.K ρ Z H [x, y] ws) : ∃ w u, ws = [w, u] ∧ rep T.cA T.K ρ Z H x w ∧ rep T.cA T.K ρ Z H y u := by
  unfold repL at r
  obtain ⟨w, ws', rfl, h1, h2⟩ := r
  obtain ⟨u, rfl, h3⟩ := Op1 h2
  exact ⟨w, u, rfl, h1, h3⟩
/-! ## len -/
def lenP (h : AH) : PV → Option Nat
  | .tup xs => some xs.length
  | .str z => if szOk z.length = true then some z.length else none
  | .scr ns => some ns.length
  | x => match lstOf h x with
    | some xs => some xs.length
    | none => (dicOf h x).map fun p => p.1.length
def fLen : List PV → Nat → AH → R PV := fun xs _ h => match xs with
  | [x] => (match lenP h x with
    | some n => .ok (.int n) h
    | none => .bad)
  | _ => .bad
def rLenP (K : PySem.W.Frag) : List V → Hp → VK → Prop := fun xs H Q => (∃ p ys, xs = [V.ref p] ∧ (SqL K H p ys ∨ SqT K H p ys) ∧ Q (V.int ys.length) H) ∨ (∃ z, xs = [V.str z] ∧ z.length ≤ sizeLine ∧ Q (.int z.length) H) ∨ (∃ a kvs, xs = [V.ref a] ∧ H a = some (.dK kvs) ∧ Q (.int kvs.length) H)
theorem ol_len : OpL T (rLenP T.K) fLen := by
  intro B b ρ Z h H vs ws Q G rs p
  unfold fLen at p
  split at p
  · rename_i x
    obtain ⟨w, rfl, rx⟩ := Op1 rs
    split at p
    · rename_i n e
      unfold lenP at e
      split at e
      · cases e
        obtain ⟨a, us, rfl, h1, z1, r1⟩ := tup_rep rx
        exact .inl ⟨a, us, rfl, .inr h1, by rw [← r1.length]; exact p ρ H _ G.nxt rep_int⟩
      · rename_i z
        split at e
        · rename_i hz
          cases e
          unfold rep at rx
          subst rx
          exact .inr (.inl ⟨z, rfl, szOk_iff.mp hz, p ρ H _ G.nxt rep_int⟩)
        · cases e
      · rename_i ns
        cases e
        unfold rep at rx
        obtain ⟨a, o, rfl, h1, _⟩ := rx
        exact .inl ⟨a, ns.map V.int, rfl, .inl (.inl (.inr ⟨o, h1⟩)), by rw [List.length_map]; exact p ρ H _ G.nxt rep_int⟩
      · split at e
        · rename_i ys ey
          cases e
          obtain ⟨a, us, rfl, h1, z1, r1⟩ := lstOf_rep G rx ey
          exact .inl ⟨a, us, rfl, .inl (.inl (.inl h1)), by rw [← r1.length]; exact p ρ H _ G.nxt rep_int⟩
        · obtain ⟨⟨ks, vs⟩, ed, rfl⟩ := Option.map_eq_some_iff.mp e
          obtain ⟨a, us, rfl, h1, hl, r1⟩ := dicOf_rep G rx ed
          refine .inr (.inr ⟨a, _, rfl, h1, ?_⟩)
          rw [List.length_zip, ← hl, Nat.min_self]
          exact p ρ H _ G.nxt rep_int
    · exact p.elim
  · exact p.elim
theorem se_len {x : Str} {e : Expr} {ds : Dn (List PV)} {p pos : Pos} (hx : x = "len") (hg : glB sc x = true) (hm : T.mg x = none) (ha : SA T k N sc [e] ds) (ns : notStar e = true) : SE T k N sc (.Call (.Name x p) [e] [] pos) (dOpL fLen ds) := by
  subst hx
  exact se_bi (r := rLenP T.K) (fun X c => CallR.or (by rw [← c.hK]; exact call_len_seq) (CallR.or call_len_str call_lenD)) ol_len hg hm PySem.boot_len ha (by decide) (by decide) ns (by rfl)

/-! ## built-in classes called -/
theorem se_ty {x : Str} {id : String} {r : List V → Hp → VK → Prop} {f : List PV → Nat → AH → R PV} {e : Expr} {es : List Expr} {ds : Dn (List PV)} {p pos : Pos} (hc : ∀ X, CxOk T k N sc X → CallR X (.type id) r) (hf : OpL T r f)
    (hg : glB sc x = true) (hm : T.mg x = none) (hv : bootBuiltins x = some (.type id)) (ha : SA T k N sc (e :: es) ds) (hn : x ≠ "__name__") (hdb : (x == ("__debug__" : Str)) = false)
    (ns : notStar e = true) (nss : es.all notStar = true) : SE T k N sc (.Call (.Name x p) (e :: es) [] pos) (dOpL f ds) := fun X W c tk =>
  PEimp (pe_callTy (hc X c) (c.gl x hg) (by rw [c.hmg]; exact hm) hv (ha X W c tk) hn hdb (starEach_cons ns) (backTo_plain nss)) fun σ H Q ⟨B, b, ρ, Z, h, env, G, er, p⟩ => ⟨B, b, ρ, Z, h, env, G, er, postA.go .post p fun ρ1 H1 vs ws h1 n rs q =>
    hf B b ρ1 Z h1 H1 vs ws Q n.good rs ((q.shift n).to0)⟩
/-- list(xs), list(t) -/
def fListOf (m : Bool) : List PV → Nat → AH → R PV := fun xs _ h => match xs with
  | [x] => (match seqOf h x with
    | some ys => mkL m ys h
    | none => .bad)
  | _ => .bad
def rListOf (K : PySem.W.Frag) : List V → Hp → VK → Prop := fun xs H Q => ∃ p ys, xs = [V.ref p] ∧ (SqL K H p ys ∨ SqT K H p ys) ∧ ∀ l, H l = none → Q (V.ref l) (upd H l (.lst ys))
theorem ol_listOf {m : Bool} : OpL T (rListOf T.K) (fListOf m) := by
  intro B b ρ Z h H vs ws Q G rs p
  unfold fListOf at p
  split at p
  · rename_i x
    obtain ⟨w, rfl, rx⟩ := Op1 rs
    split at p
    · rename_i ys e
      obtain ⟨a, us, rfl, h1, z1, r1⟩ := seqOf_rep G rx e
      exact ⟨a, us, rfl, h1.imp (fun q => .inl (.inl q)) id, fun l hl => mkL_ok z1 G hl r1 p⟩
    · exact p.elim
  · exact p.elim
theorem se_list {m : Bool} {x : Str} {e : Expr} {ds : Dn (List PV)} {p pos : Pos} (hx : x = "list") (hg : glB sc x = true) (hm : T.mg x = none) (ha : SA T k N sc [e] ds) (ns : notStar e = true) : SE T k N sc (.Call (.Name x p) [e] [] pos) (dOpL (fListOf m) ds) := by
  subst hx
  exact se_ty (r := rListOf T.K) (fun X c => by rw [← c.hK]; exact call_list_of) ol_listOf hg hm (by decide +kernel) ha (by decide) (by decide) ns (by rfl)
/-- tuple(xs), tuple(t) -/
def fTupOf : List PV → Nat → AH → R PV := fun xs _ h => match xs with
  | [x] => (match seqOf h x with
    | some ys => .ok (.tup ys) h
    | none => .bad)
  | _ => .bad
def rTupOf (K : PySem.W.Frag) : List V → Hp → VK → Prop := fun xs H Q => ∃ p ys, xs = [V.ref p] ∧ ((SqL K H p ys ∧ ∀ l, H l = none → Q (V.ref l) (upd H l (.tup ys))) ∨ (SqT K H p ys ∧ Q (V.ref p) H))
theorem ol_tupOf : OpL T (rTupOf T.K) fTupOf := by
  intro B b ρ Z h H vs ws Q G rs p
  unfold fTupOf at p
  split at p
  · rename_i x
    obtain ⟨w, rfl, rx⟩ := Op1 rs
    split at p
    · rename_i ys e
      obtain ⟨a, us, rfl, h1, z1, r1⟩ := seqOf_rep G rx e
      refine ⟨a, us, rfl, ?_⟩
      rcases h1 with h1 | h1
      · exact .inl ⟨.inl (.inl h1), fun l hl => mkT_ok z1 G hl r1 p⟩
      · exact .inr ⟨h1, p ρ H _ G.nxt (rep_tup h1 z1 r1)⟩
    · exact p.elim
  · exact p.elim
theorem se_tuple {x : Str} {e : Expr} {ds : Dn (List PV)} {p pos : Pos} (hx : x = "tuple") (hg : glB sc x = true) (hm : T.mg x = none) (ha : SA T k N sc [e] ds) (ns : notStar e = true) : SE T k N sc (.Call (.Name x p) [e] [] pos) (dOpL fTupOf ds) := by
  subst hx
  exact se_ty (r := rTupOf T.K) (fun X c => by rw [← c.hK]; exact call_tuple_of) ol_tupOf hg hm (by decide +kernel) ha (by decide) (by decide) ns (by rfl)
/-- int(n), int(b) -/
def fInt : List PV → Nat → AH → R PV := fun xs _ h => match xs with
  | [.int i] => .ok (.int i) h
  | [.bl t] => .ok (.int (if t then 1 else 0)) h
  | _ => .bad
theorem ol_int : OpL T (fun xs H Q => (∃ i, xs = [V.int i] ∧ Q (V.int i) H) ∨ ∃ k, xs = [V.bl k] ∧ Q (.int (if k then 1 else 0)) H) fInt := by
  intro B b ρ Z h H vs ws Q G rs p
  unfold fInt at p
  split at p
  · obtain ⟨w, rfl, rx⟩ := Op1 rs
    unfold rep at rx
    subst rx
    exact .inl ⟨_, rfl, p ρ H _ G.nxt rep_int⟩
  · rename_i t
    obtain ⟨w, rfl, rx⟩ := Op1 rs
    unfold rep at rx
    subst rx
    refine .inr ⟨t, rfl, p ρ H _ G.nxt ?_⟩
    exact rep_int
  · exact p.elim
theorem se_intOf {x : Str} {e : Expr} {ds : Dn (List PV)} {p pos : Pos} (hx : x = "int") (hg : glB sc x = true) (hm : T.mg x = none) (ha : SA T k N sc [e] ds) (ns : notStar e = true) : SE T k N sc (.Call (.Name x p) [e] [] pos) (dOpL fInt ds) := by
  subst hx
  exact se_ty (fun X c => call_int1) ol_int hg hm (by decide +kernel) ha (by decide) (by decide) ns (by rfl)
/-! max, min of two numbers -/
def fMax2 : List PV → Nat → AH → R PV := fun xs _ h => match xs with
  | [.int i, .int j] => .ok (.int (if j > i then j else i)) h
  | _ => .bad
def fMin2 : List PV → Nat → AH → R PV := fun xs _ h => match xs with
  | [.int i, .int j] => .ok (.int (if j < i then j else i)) h
  | _ => .bad
theorem ol_max2 : OpL T (fun xs H Q => ∃ i j, xs = [V.int i, V.int j] ∧ Q (V.int (if j > i then j else i)) H) fMax2 := by
  intro B b ρ Z h H vs ws Q G rs p
  unfold fMax2 at p
  split at p
  · obtain ⟨w, u, rfl, rx, ry⟩ := Op1' rs
    unfold rep at rx ry
    subst rx ry
    exact ⟨_, _, rfl, p ρ H _ G.nxt rep_int⟩
  · exact p.elim
theorem ol_min2 : OpL T (fun xs H Q => ∃ i j, xs = [V.int i, V.int j] ∧ Q (V.int (if j < i then j else i)) H) fMin2 := by
  intro B b ρ Z h H vs ws Q G rs p
  unfold fMin2 at p
  split at p
  · obtain ⟨w, u, rfl, rx, ry⟩ := Op1' rs
    unfold rep at rx ry
    subst rx ry
    exact ⟨_, _, rfl, p ρ H _ G.nxt rep_int⟩
  · exact p.elim
theorem se_max2 {x : Str} {e e2 : Expr} {ds : Dn (List PV)} {p pos : Pos} (hx : x = "max") (hg : glB sc x = true) (hm : T.mg x = none) (ha : SA T k N sc [e, e2] ds) (ns : notStar e = true) (ns2 : notStar e2 = true) : SE T k N sc (.Call (.Name x p) [e, e2] [] pos) (dOpL fMax2 ds) := by
  subst hx
  exact se_bi (fun X c => call_max2 c.calm) ol_max2 hg hm (by decide +kernel) ha (by decide) (by decide) ns (by simp [ns2])
theorem se_min2 {x : Str} {e e2 : Expr} {ds : Dn (List PV)} {p pos : Pos} (hx : x = "min") (hg : glB sc x = true) (hm : T.mg x = none) (ha : SA T k N sc [e, e2] ds) (ns : notStar e = true) (ns2 : notStar e2 = true) : SE T k N sc (.Call (.Name x p) [e, e2] [] pos) (dOpL fMin2 ds) := by
  subst hx
  exact se_bi (fun X c => call_min2 c.calm) ol_min2 hg hm (by decide +kernel) ha (by decide) (by decide) ns (by simp [ns2])
/-! all, any of a list of bools -/
def blsOf : List PV → Option (List Bool)
  | [] => some []
  | .bl t :: r => (blsOf r).map (t :: ·)
  | _ => none
theorem bls_rep {ρ Z : List Addr} {H : Hp} : ∀ {xs : List PV} {vs : List V} {ts : List Bool}, repL T.cA T.K ρ Z H xs vs → blsOf xs = some ts → vs = ts.map V.bl
  | [], vs, ts, r, e => by cases e; unfold repL at r; subst r; rfl
  | x :: xs, vs, ts, r, e => by
    unfold repL at r
    obtain ⟨w, ws, rfl, h1, h2⟩ := r
    cases x with
    | bl t =>
      simp only [blsOf] at e
      obtain ⟨us, e1, rfl⟩ := Option.map_eq_some_iff.mp e
      unfold rep at h1
      subst h1
      rw [bls_rep h2 e1]
      rfl
    | _ => simp [blsOf] at e
def fAll : List PV → Nat → AH → R PV := fun xs _ h => match xs with
  | [x] => (match (lstOf h x).bind blsOf with
    | some ts => .ok (.bl (ts.all id)) h
    | none => .bad)
  | _ => .bad
def fAny : List PV → Nat → AH → R PV := fun xs _ h => match xs with
  | [x] => (match (lstOf h x).bind blsOf with
    | some ts => .ok (.bl (ts.any id)) h
    | none => .bad)
  | _ => .bad
theorem ol_all : OpL T (rAll T.K) fAll := by
  intro B b ρ Z h H vs ws Q G rs p
  unfold fAll at p
  split at p
  · rename_i x
    obtain ⟨w, rfl, rx⟩ := Op1 rs
    split at p
    · rename_i ts e
      obtain ⟨xs, e1, e2⟩ := Option.bind_eq_some_iff.mp e
      obtain ⟨a, us, rfl, h1, z1, r1⟩ := lstOf_rep G rx e1
      have := bls_rep r1 e2
      subst this
      exact ⟨a, ts, rfl, .inl (.inl h1), p ρ H _ G.nxt rep_bl⟩
    · exact p.elim
  · exact p.elim
theorem ol_any : OpL T (rAny T.K) fAny := by
  intro B b ρ Z h H vs ws Q G rs p
  unfold fAny at p
  split at p
  · rename_i x
    obtain ⟨w, rfl, rx⟩ := Op1 rs
    split at p
    · rename_i ts e
      obtain ⟨xs, e1, e2⟩ := Option.bind_eq_some_iff.mp e
      obtain ⟨a, us, rfl, h1, z1, r1⟩ := lstOf_rep G rx e1
      have := bls_rep r1 e2
      subst this
      exact ⟨a, ts, rfl, .inl (.inl h1), p ρ H _ G.nxt rep_bl⟩
    · exact p.elim
  · exact p.elim
theorem se_all {x : Str} {e : Expr} {ds : Dn (List PV)} {p pos : Pos} (hx : x = "all") (hg : glB sc x = true) (hm : T.mg x = none) (ha : SA T k N sc [e] ds) (ns : notStar e = true) : SE T k N sc (.Call (.Name x p) [e] [] pos) (dOpL fAll ds) := by
  subst hx
  exact se_bi (r := rAll T.K) (fun X c => by rw [← c.hK]; exact cr_all c.calm) ol_all hg hm (by decide +kernel) ha (by decide) (by decide) ns (by rfl)
theorem se_any {x : Str} {e : Expr} {ds : Dn (List PV)} {p pos : Pos} (hx : x = "any") (hg : glB sc x = true) (hm : T.mg x = none) (ha : SA T k N sc [e] ds) (ns : notStar e = true) : SE T k N sc (.Call (.Name x p) [e] [] pos) (dOpL fAny ds) := by
  subst hx
  exact se_bi (r := rAny T.K) (fun X c => by rw [← c.hK]; exact cr_any c.calm) ol_any hg hm (by decide +kernel) ha (by decide) (by decide) ns (by rfl)
/-! isinstance, one built-in class -/
theorem se_cls {x : Str} {n : String} {pos : Pos} (hg : glB sc x = true) (hm : T.mg x = none) (hv : bootBuiltins x = some (.type n)) (hn : x ≠ "__name__") (hdb : (x == ("__debug__" : Str)) = false) : SE T k N sc (.Name x pos) (dC (.ty n)) := fun X W c tk =>
  PEimp (pe_bltn (v := .ty n) (c.gl x hg) (by rw [c.hmg]; exact hm) hv rfl hn hdb) fun σ H Q ⟨B, b, ρ, Z, h, env, G, er, p⟩ => p ρ H (.ty n) G.nxt (by unfold rep; rfl)
def tyP (h : AH) : PV → Option String
  | .non => some "NoneType"
  | .bl _ => some "bool"
  | .int _ => some "int"
  | .str _ => some "str"
  | .tup _ => some "tuple"
  | .lst _ => some "list"
  | .dic _ _ => some "dict"
  | .scr _ => some "list"
  | .ref n => match h[n]? with
    | some (.lst _) => some "list"
    | some (.dic _ _) => some "dict"
    | _ => none
  | _ => none
def kitP (a n : String) : Option Bool := if ["NoneType", "bool", "int", "str", "tuple", "list", "dict"].contains a = true ∧ ["bool", "int", "str", "tuple", "list", "dict"].contains n = true then some (a == n || (a == "bool" && n == "int")) else none
theorem kitP_ok {a n : String} {r : Bool} (e : kitP a n = some r) : kitB a n = some r := by
  unfold kitP at e
  split at e
  · rename_i hh
    obtain ⟨h1, h2⟩ := hh
    simp only [List.contains_iff_mem, List.mem_cons, List.not_mem_nil, or_false] at h1 h2
    rw [← e]
    rcases h1 with rfl | rfl | rfl | rfl | rfl | rfl | rfl <;> rcases h2 with rfl | rfl | rfl | rfl | rfl | rfl <;> decide +kernel
  · cases e
theorem tyP_rep {B : List Nat} {b : Nat} {ρ Z : List Addr} {h : AH} {H : Hp} (G : Good T.cA T.K B b ρ Z h H) {x : PV} {v : V} {t : String} (r : rep T.cA T.K ρ Z H x v) (e : tyP h x = some t) : TyX T.K H v (.type t) := by
  cases x with
  | non => cases e; unfold rep at r; subst r; exact .base .non
  | bl y => cases e; unfold rep at r; subst r; exact .base (.bl _)
  | int y => cases e; unfold rep at r; subst r; exact .base (.int _)
  | str y => cases e; unfold rep at r; subst r; exact .base (.str _)
  | tup xs =>
    cases e
    obtain ⟨a, vs, rfl, h1, z1, r1⟩ := tup_rep r
    rcases h1 with h1 | ⟨o, its, n, h1, h2, _⟩
    · rcases h1 with h1 | ⟨o, h1⟩
      · exact .base (.tup h1)
      · exact .fTuple h1
    · exact .kTuple h1 h2
  | lst xs =>
    cases e
    unfold rep at r
    obtain ⟨a, vs, rfl, h1, _⟩ := r
    exact .base (.lst h1)
  | dic ks xs =>
    cases e
    unfold rep at r
    obtain ⟨a, vs, rfl, h1, _⟩ := r
    exact .base (.dK h1)
  | scr ns =>
    cases e
    unfold rep at r
    obtain ⟨a, o, rfl, h1, _⟩ := r
    exact .base (.frz h1)
  | ref n =>
    simp only [tyP] at e
    obtain ⟨a, rfl, ea⟩ := ref_rep r
    split at e
    · rename_i xs q
      cases e
      obtain ⟨vs, h1, _⟩ := G.obj n a _ ea q
      exact .base (.lst h1)
    · rename_i ks xs q
      cases e
      obtain ⟨vs, h1, _⟩ := G.obj n a _ ea q
      exact .base (.dK h1)
    · cases e
  | _ => cases e
def fIsi : List PV → Nat → AH → R PV := fun xs _ h => match xs with
  | [x, .ty n] => (match (tyP h x).bind fun t => kitP t n with
    | some r => .ok (.bl r) h
    | none => .bad)
  | _ => .bad
theorem ol_isi : OpL T (rIsi T.K) fIsi := by
  intro B b ρ Z h H vs ws Q G rs p
  unfold fIsi at p
  split at p
  · rename_i x n
    obtain ⟨w, u, rfl, rx, ry⟩ := Op1' rs
    split at p
    · rename_i r e
      obtain ⟨t, e1, e2⟩ := Option.bind_eq_some_iff.mp e
      unfold rep at ry
      subst ry
      exact ⟨w, .ty n, .type t, .type n, r, rfl, .ty n, tyP_rep G rx e1, kit_ty (kitP_ok e2), p ρ H _ G.nxt rep_bl⟩
    · exact p.elim
  · exact p.elim
theorem se_isi {x : Str} {e e2 : Expr} {ds : Dn (List PV)} {p pos : Pos} (hx : x = "isinstance") (hg : glB sc x = true) (hm : T.mg x = none) (ha : SA T k N sc [e, e2] ds) (ns : notStar e = true) (ns2 : notStar e2 = true) : SE T k N sc (.Call (.Name x p) [e, e2] [] pos) (dOpL fIsi ds) := by
  subst hx
  exact se_bi (r := rIsi T.K) (fun X c => by rw [← c.hK]; exact call_isi) ol_isi hg hm (by decide +kernel) ha (by decide) (by decide) ns (by simp [ns2])
theorem se_pow {a e : Expr} {da de : Dn PV} {pos : Pos} (ha : SE T k N sc a da) (he : SE T k N sc e de) : SE T k N sc (.BinOp a .Pow e pos) (dOp2 fPow da de) :=
  se_op2 (fun X c => op_pow) (o2_int (fun i j h => by simpa [cPow, CPow, and_assoc] using h) fun _ _ _ _ _ => rep_int) ha he
end
end Mn
end
section
set_option Elab.async false
set_option linter.all false
set_option maxRecDepth 100000
namespace Mn
open PySem PySem.Spec L2

section
variable {T : Tt} {k : Nat} {N : List Str} {sc : Scope}
/-! ## xs[i] = v -/
def lsetP (b : Nat) (h : AH) (x i v : PV) : Option AH := match x, i with
  | .ref n, .int j => match h[n]? with
    | some (.lst xs) => if okW b n v = true then (ixN xs.length j).map fun m => h.set n (.lst (xs.set m v)) else none
    | _ => none
  | _, _ => none
def dLset (dv dx di : Dn PV) : Ds := fun env b h => (dv env b h).then env fun v h1 => (dx env b h1).then env fun x h2 => (di env b h2).then env fun i h3 => match lsetP b h3 x i v with
  | some h4 => .nx env h4
  | none => .bad
theorem repL_set {ρ Z : List Addr} {H : Hp} : ∀ (j : Nat) {xs : List PV} {vs : List V} {x : PV} {v : V}, repL T.cA T.K ρ Z H xs vs → rep T.cA T.K ρ Z H x v → repL T.cA T.K ρ Z H (xs.set j x) (vs.set j v)
  | j, [], vs, x, v, r, _ => by unfold repL at r; subst r; simp; exact .nil
  | 0, y :: xs, vs, x, v, r, rx => by unfold repL at r; obtain ⟨w, ws, rfl, h1, h2⟩ := r; simpa using repL_cons.mpr ⟨rx, h2⟩
  | j + 1, y :: xs, vs, x, v, r, rx => by
    unfold repL at r; obtain ⟨w, ws, rfl, h1, h2⟩ := r
    simp only [List.set_cons_succ]
    exact repL_cons.mpr ⟨h1, repL_set j h2 rx⟩
theorem lset_ok {B : List Nat} {b : Nat} {ρ Z : List Addr} {h h4 : AH} {H : Hp} {x i v : PV} {o iv w : V} {Q : Hp → Prop} (G : Good T.cA T.K B b ρ Z h H) (rx : rep T.cA T.K ρ Z H x o) (ri : rep T.cA T.K ρ Z H i iv) (rv : rep T.cA T.K ρ Z H v w) (e : lsetP b h x i v = some h4)
    (q : ∀ H', Nxt T.cA T.K B b ρ Z H ρ h4 H' → Q H') : rSetL o iv w H Q := by
  unfold lsetP at e
  split at e
  · rename_i n j
    split at e
    · rename_i xs eh
      split at e
      · rename_i hc
        obtain ⟨m, em, rfl⟩ := Option.map_eq_some_iff.mp e
        obtain ⟨a, rfl, ea⟩ := ref_rep rx
        obtain ⟨vs, h1, z1, r1⟩ := G.obj n a _ ea eh
        unfold rep at ri
        subst ri
        refine ⟨a, vs, j, m, rfl, rfl, h1, by rw [← r1.length]; exact em, q _ (wr_lst G ea eh (by simpa using z1) (repL_set m r1 rv) fun c hcB hn => PV.lowL_iff.mpr fun y hy => ?_)⟩
        rcases List.mem_or_eq_of_mem_set hy with h | h
        · exact PV.lowL_iff.mp (G.cl c hcB n _ hn eh) y h
        · rw [h]; exact okW_low G hc c hcB hn
      · cases e
    · cases e
  · cases e
theorem ss_lset {o i e : Expr} {pos pos' : Pos} {dv dx di : Dn PV} (he : SE T k N sc e dv) (ho : SE T k N sc o dx) (hi : SE T k N sc i di) (hn : noComp e = true)
    (hsi : ∀ (env : Env) (v : Value), assign (o.Subscript i pos') env v = do
      let ov ← holding [v] (eval o env)
      let iv ← holding [v, ov] (eval i env)
      standAt pos'
      holding [v, ov, iv] (setItem ov iv v)
      release [v, ov, iv] [])
    (h1 : ∀ env : Env, swapsWithSole [o.Subscript i pos'] e pos.line env = pure false) (h2 : ∀ env : Env, swappedStores [o.Subscript i pos'] e env = pure none) : SS T k N sc (.Assign [o.Subscript i pos'] e pos) (dLset dv dx di) := fun X W c tk =>
  PSimp (ps_asg (he X W c.toCxOk tk) (pg_sub (ho X W c.toCxOk tk) (hi X W c.toCxOk tk) set_list (hsi X.env)) (h1 X.env) (h2 X.env) (by rfl)) fun D σ H ⟨B, b, ρ, Z, h, env, G, er, p⟩ => ⟨B, b, ρ, Z, h, env, G, er, post.goS G er p fun ρ1 H1 v w h1 n rv q =>
    have er1 := er.step n G
    ⟨B, b, ρ1, Z, h1, env, n.good, er1, post.goS (D := D) n.good er1 (q.shift n) fun ρ2 H2 v2 w2 h2 n2 rv2 q2 =>
      have er2 := er1.step n2 n.good
      ⟨B, b, ρ2, Z, h2, env, n2.good, er2, post.goS (D := D) n2.good er2 (q2.shift n2) fun ρ3 H3 v3 w3 h3 n3 rv3 q3 => by
        have er3 := er2.step n3 n2.good
        split at q3
        · rename_i h4 e4
          exact lset_ok n3.good (n3.rep n2.good rv2) rv3 (n3.rep n2.good (n2.rep n.good rv)) e4 fun H' n4 => q3 ρ3 H' σ (n3.trans n4) (er3.step n4 n3.good)
        · exact q3.elim⟩⟩⟩
/-! ## d[k] = v -/
def hasK (ks : List Key) (k : Key) : Bool := ks.any fun k' => decide (k' = k)
def dPutK (ks : List Key) (k : Key) : List Key := if hasK ks k = true then ks else ks ++ [k]
def dPutV (ks : List Key) (vs : List PV) (k : Key) (v : PV) : List PV := if hasK ks k = true then dSetP ks vs k v else vs ++ [v]
def dputP (b : Nat) (h : AH) (x i v : PV) : Option AH := match x with
  | .ref n => match h[n]? with
    | some (.dic ks vs) => (match keyOf i with
      | some key => if (okW b n v && szOk (ks.length + 1)) = true then some (h.set n (.dic (dPutK ks key) (dPutV ks vs key v))) else none
      | none => none)
    | _ => none
  | _ => none
def dDput (dv dx di : Dn PV) : Ds := fun env b h => (dv env b h).then env fun v h1 => (dx env b h1).then env fun x h2 => (di env b h2).then env fun i h3 => match dputP b h3 x i v with
  | some h4 => .nx env h4
  | none => .bad
/-- the same over any values -/
def dSetG {α : Type} : List Key → List α → Key → α → List α
  | k' :: ks, v' :: vs, k, v => (if k' = k then v else v') :: dSetG ks vs k v
  | _, _, _, _ => []
theorem dSetG_len {α : Type} : ∀ {ks : List Key} {ws : List α} {k : Key} {w : α}, ks.length = ws.length → (dSetG ks ws k w).length = ks.length
  | [], [], _, _, _ => rfl
  | [], _ :: _, _, _, h => by cases h
  | _ :: _, [], _, _, h => by cases h
  | _ :: ks, _ :: ws, k, w, h => by simp only [dSetG, List.length_cons]; rw [dSetG_len (by simpa using h)]
theorem dSet_rep {ρ Z : List Addr} {H : Hp} : ∀ {ks : List Key} {vs : List PV} {ws : List V} {k : Key} {v : PV} {w : V}, repL T.cA T.K ρ Z H vs ws → rep T.cA T.K ρ Z H v w → repL T.cA T.K ρ Z H (dSetP ks vs k v) (dSetG ks ws k w)
  | [], vs, ws, _, _, _, _, _ => by simp only [dSetP, dSetG]; exact .nil
  | _ :: _, [], ws, _, _, _, r, _ => by unfold repL at r; subst r; simp only [dSetP, dSetG]; exact .nil
  | k' :: ks, v' :: vs, ws, k, v, w, r, rv => by
    unfold repL at r
    obtain ⟨w', ws', rfl, h1, h2⟩ := r
    simp only [dSetP, dSetG]
    refine repL_cons.mpr ⟨?_, dSet_rep h2 rv⟩
    split
    · exact rv
    · exact h1
theorem dSet_map : ∀ {ks : List Key} {ws : List V} {k : Key} {w : V}, ks.length = ws.length → (ks.zip ws).map (fun kv => if kv.1 = k then (kv.1, w) else kv) = ks.zip (dSetG ks ws k w)
  | [], _, _, _, _ => rfl
  | _ :: _, [], _, _, h => by cases h
  | k' :: ks, w' :: ws, k, w, h => by
    simp only [List.zip_cons_cons, List.map_cons, dSetG]
    rw [dSet_map (by simpa using h)]
    by_cases q : k' = k
    · simp [q]
    · simp [q]
theorem any_key {ks : List Key} {ws : List V} {k : Key} (h : ks.length = ws.length) : ((ks.zip ws).any fun kv => decide (kv.1 = k)) = hasK ks k := by
  induction ks generalizing ws with
  | nil => rfl
  | cons k' ks ih =>
    cases ws with
    | nil => cases h
    | cons w ws =>
      simp only [List.zip_cons_cons, List.any_cons, ih (show ks.length = ws.length by simpa using h), hasK]
def dPutG (ks : List Key) (ws : List V) (k : Key) (w : V) : List V := if hasK ks k = true then dSetG ks ws k w else ws ++ [w]
theorem put_zip {ks : List Key} {ws : List V} {k : Key} {w : V} (h : ks.length = ws.length) : putK (ks.zip ws) k w = (dPutK ks k).zip (dPutG ks ws k w) ∧ (dPutK ks k).length = (dPutG ks ws k w).length := by
  unfold putK dPutK dPutG
  rw [any_key h]
  by_cases q : hasK ks k = true
  · simp only [q, if_true]
    exact ⟨dSet_map h, (dSetG_len h).symm⟩
  · rw [if_neg q, if_neg q, if_neg q]
    refine ⟨?_, by simp [h]⟩
    rw [List.zip_append h]
    rfl
theorem put_rep {ρ Z : List Addr} {H : Hp} {ks : List Key} {vs : List PV} {ws : List V} {k : Key} {v : PV} {w : V} (r : repL T.cA T.K ρ Z H vs ws) (rv : rep T.cA T.K ρ Z H v w) : repL T.cA T.K ρ Z H (dPutV ks vs k v) (dPutG ks ws k w) := by
  unfold dPutV dPutG
  split
  · exact dSet_rep r rv
  · exact r.append (.one rv)
theorem dSetP_mem : ∀ {ks : List Key} {vs : List PV} {k : Key} {v y : PV}, y ∈ dSetP ks vs k v → y ∈ vs ∨ y = v
  | [], vs, _, _, _, h => by simp [dSetP] at h
  | _ :: _, [], _, _, _, h => by simp [dSetP] at h
  | k' :: ks, v' :: vs, k, v, y, h => by
    simp only [dSetP, List.mem_cons] at h
    rcases h with h | h
    · split at h
      · exact .inr h
      · exact .inl (by rw [h]; exact List.mem_cons_self)
    · rcases dSetP_mem h with h | h
      · exact .inl (List.mem_cons_of_mem _ h)
      · exact .inr h
theorem dPutV_mem {ks : List Key} {vs : List PV} {k : Key} {v y : PV} (h : y ∈ dPutV ks vs k v) : y ∈ vs ∨ y = v := by
  unfold dPutV at h
  split at h
  · exact dSetP_mem h
  · simpa using h
theorem dput_ok {B : List Nat} {b : Nat} {ρ Z : List Addr} {h h4 : AH} {H : Hp} {x i v : PV} {o iv w : V} {Q : Hp → Prop} (G : Good T.cA T.K B b ρ Z h H) (rx : rep T.cA T.K ρ Z H x o) (ri : rep T.cA T.K ρ Z H i iv) (rv : rep T.cA T.K ρ Z H v w) (e : dputP b h x i v = some h4)
    (q : ∀ H', Nxt T.cA T.K B b ρ Z H ρ h4 H' → Q H') : ∃ a H4, o = .ref a ∧ DPut H a iv w H4 ∧ Q H4 := by
  unfold dputP at e
  split at e
  · rename_i n
    split at e
    · rename_i ks xs eh
      split at e
      · rename_i key ek
        split at e
        · rename_i hc
          simp only [Bool.and_eq_true] at hc
          cases e
          obtain ⟨a, rfl, ea⟩ := ref_rep rx
          obtain ⟨vs, h1, hl, r1⟩ := G.obj n a _ ea eh
          have hz := szOk_iff.mp hc.2
          obtain ⟨p1, p2⟩ := put_zip (k := key) (w := w) hl
          refine ⟨a, _, rfl, .inl ⟨_, key, h1, keyOf_rep ri ek, by rw [List.length_zip, ← hl, Nat.min_self]; omega, rfl⟩, q _ (G.write ea eh ⟨dPutG ks vs key w, by rw [upd_same, p1], p2, repL_step (step_write (List.mem_of_getElem? ea)) G.written (put_rep r1 rv)⟩ fun c hcB hn => ?_)⟩
          refine PV.lowL_iff.mpr fun y hy => ?_
          rcases dPutV_mem hy with h | h
          · exact PV.lowL_iff.mp (G.cl c hcB n _ hn eh) y h
          · rw [h]; exact okW_low G hc.1 c hcB hn
        · cases e
      · cases e
    · cases e
  · cases e
theorem ss_dput {o i e : Expr} {pos pos' : Pos} {dv dx di : Dn PV} (he : SE T k N sc e dv) (ho : SE T k N sc o dx) (hi : SE T k N sc i di) (hn : noComp e = true) : SS T k N sc (.Assign [o.Subscript i pos'] e pos) (dDput dv dx di) := fun X W c tk =>
  PSimp (ps_dput (by have := c.toCxOk.un; omega) (ho X W c.toCxOk tk) (hi X W c.toCxOk tk) (he X W c.toCxOk tk) (sw_no hn)) fun D σ H ⟨B, b, ρ, Z, h, env, G, er, p⟩ => ⟨B, b, ρ, Z, h, env, G, er, post.goS G er p fun ρ1 H1 v w h1 n rv q =>
    have er1 := er.step n G
    ⟨B, b, ρ1, Z, h1, env, n.good, er1, post.goS (D := D) n.good er1 (q.shift n) fun ρ2 H2 v2 w2 h2 n2 rv2 q2 =>
      have er2 := er1.step n2 n.good
      ⟨B, b, ρ2, Z, h2, env, n2.good, er2, post.goS (D := D) n2.good er2 (q2.shift n2) fun ρ3 H3 v3 w3 h3 n3 rv3 q3 => by
        have er3 := er2.step n3 n2.good
        split at q3
        · rename_i h4 e4
          exact dput_ok n3.good (n3.rep n2.good rv2) rv3 (n3.rep n2.good (n2.rep n.good rv)) e4 fun H' n4 => q3 ρ3 H' σ (n3.trans n4) (er3.step n4 n3.good)
        · exact q3.elim⟩⟩⟩
/-! ## o.f = v -/
def fSetF : List Str → Str → List Str
  | [], f => [f]
  | g :: r, f => if g = f then g :: r else g :: fSetF r f
def fSetV {α : Type} : List Str → List α → Str → α → List α
  | g :: r, x :: xs, f, v => if g = f then v :: xs else x :: fSetV r xs f v
  | _, _, _, v => [v]
theorem putF_zip : ∀ {fs : List Str} {ws : List V} {f : Str} {w : V}, fs.length = ws.length → putF f w (fs.zip ws) = (fSetF fs f).zip (fSetV fs ws f w) ∧ (fSetF fs f).length = (fSetV fs ws f w).length
  | [], [], f, w, _ => ⟨rfl, rfl⟩
  | [], _ :: _, _, _, h => by cases h
  | _ :: _, [], _, _, h => by cases h
  | g :: r, x :: xs, f, w, h => by
    obtain ⟨h1, h2⟩ := putF_zip (f := f) (w := w) (show r.length = xs.length by simpa using h)
    simp only [List.zip_cons_cons, putF, fSetF, fSetV]
    by_cases q : g = f
    · rw [if_pos q, if_pos q, if_pos q]
      exact ⟨rfl, by simpa using h⟩
    · rw [if_neg q, if_neg q, if_neg q, h1]
      exact ⟨rfl, by simp [h2]⟩
theorem fSet_rep {ρ Z : List Addr} {H : Hp} : ∀ {fs : List Str} {vs : List PV} {ws : List V} {f : Str} {v : PV} {w : V}, repL T.cA T.K ρ Z H vs ws → rep T.cA T.K ρ Z H v w → repL T.cA T.K ρ Z H (fSetV fs vs f v) (fSetV fs ws f w)
  | [], vs, ws, _, _, _, _, rv => by simp only [fSetV]; exact .one rv
  | _ :: _, [], ws, _, _, _, r, rv => by unfold repL at r; subst r; simp only [fSetV]; exact .one rv
  | g :: fs, x :: vs, ws, f, v, w, r, rv => by
    unfold repL at r
    obtain ⟨w', ws', rfl, h1, h2⟩ := r
    simp only [fSetV]
    split
    · exact repL_cons.mpr ⟨rv, h2⟩
    · exact repL_cons.mpr ⟨h1, fSet_rep h2 rv⟩
theorem fSetV_mem : ∀ {fs : List Str} {vs : List PV} {f : Str} {v y : PV}, y ∈ fSetV fs vs f v → y ∈ vs ∨ y = v
  | [], vs, _, _, _, h => by simp [fSetV] at h; exact .inr h
  | _ :: _, [], _, _, _, h => by simp [fSetV] at h; exact .inr h
  | g :: fs, x :: vs, f, v, y, h => by
    simp only [fSetV] at h
    split at h
    · rcases List.mem_cons.mp h with h | h
      · exact .inr h
      · exact .inl (List.mem_cons_of_mem _ h)
    · rcases List.mem_cons.mp h with h | h
      · exact .inl (by rw [h]; exact List.mem_cons_self)
      · rcases fSetV_mem h with h | h
        · exact .inl (List.mem_cons_of_mem _ h)
        · exact .inr h
def fsetP (f : Str) (ok : Str → Bool) (b : Nat) (h : AH) (x v : PV) : Option AH := match x with
  | .ref n => match h[n]? with
    | some (.ins c fs vs) => if (ok c && Nat.blt fs.length 1000 && okW b n v) = true then some (h.set n (.ins c (fSetF fs f) (fSetV fs vs f v))) else none
    | _ => none
  | _ => none
def dFset (f : Str) (ok : Str → Bool) (dv dx : Dn PV) : Ds := fun env b h => (dv env b h).then env fun v h1 => (dx env b h1).then env fun x h2 => match fsetP f ok b h2 x v with
  | some h4 => .nx env h4
  | none => .bad
theorem ss_fset {o e : Expr} {f : Str} {pos pos' : Pos} {ok : Str → Bool} {dv dx : Dn PV} (F : FldOk T f ok) (he : SE T k N sc e dv) (ho : SE T k N sc o dx) (hn : noComp e = true) : SS T k N sc (.Assign [o.Attribute f pos'] e pos) (dFset f ok dv dx) := fun X W c tk =>
  PSimp (ps_fld (ho X W c.toCxOk tk) (he X W c.toCxOk tk) (sw_no hn)) fun D σ H ⟨B, b, ρ, Z, h, env, G, er, p⟩ => ⟨B, b, ρ, Z, h, env, G, er, post.goS G er p fun ρ1 H1 v w h1 n rv q =>
    have er1 := er.step n G
    ⟨B, b, ρ1, Z, h1, env, n.good, er1, post.goS (D := D) n.good er1 (q.shift n) fun ρ2 H2 v2 w2 h2 n2 rv2 q2 => by
      have er2 := er1.step n2 n.good
      split at q2
      · rename_i h4 e4
        unfold fsetP at e4
        split at e4
        · rename_i i
          split at e4
          · rename_i cc fs vs eh
            split at e4
            · rename_i hc
              simp only [Bool.and_eq_true, Nat.blt_eq] at hc
              cases e4
              obtain ⟨a, rfl, ea⟩ := ref_rep rv2
              obtain ⟨dx', ws, e1, hl, r1⟩ := n2.good.obj i a _ ea eh
              have G2 := n2.good
              obtain ⟨p1, p2⟩ := putF_zip (f := f) (w := w) hl
              have n4 := G2.write (o := .ins (T.cA cc) dx' ((fSetF fs f).zip (fSetV fs ws f w))) (ao := .ins cc (fSetF fs f) (fSetV fs vs f v)) ea eh ⟨dx', fSetV fs ws f w, upd_same, p2, repL_step (step_write (List.mem_of_getElem? ea)) G2.written (fSet_rep r1 (n2.rep n.good rv))⟩ fun c' hcB hn => by
                refine PV.lowL_iff.mpr fun y hy => ?_
                rcases fSetV_mem hy with h | h
                · exact PV.lowL_iff.mp (G2.cl c' hcB i _ hn eh) y h
                · rw [h]; exact okW_low G2 hc.2 c' hcB hn
              refine ⟨a, T.cA cc, dx', fs.zip ws, rfl, e1, by rw [c.hK]; exact (F cc hc.1.1).1, by rw [c.hK]; exact (F cc hc.1.1).2, by rw [List.length_zip]; have := hc.1.2; omega, ?_⟩
              rw [p1]
              exact q2 ρ2 _ σ (n2.trans n4) (er2.step n4 G2)
            · cases e4
          · cases e4
        · cases e4
      · exact q2.elim⟩⟩
/-! ## x += n -/
def dAug (i : Nat) (d : Dn PV) : Ds := fun env b h => match env[i]? with
  | some (some (.int n)) => (d env b h).then env fun v h1 => (match v with
    | .int m => .nx (env.set i (some (.int (n + m)))) h1
    | _ => .bad)
  | _ => .bad
theorem ss_aug {i : Nat} {x : Str} {e : Expr} {d : Dn PV} {pos pos' : Pos} (hi : N[i]? = some x) (hl : locB sc x = true) (he : SE T k N sc e d) : SS T k N sc (.AugAssign (.Name x pos') .Add e pos) (dAug i d) := fun X W c tk =>
  PSimp (ps_aug (i := i) (by rw [c.hN]; exact c.nd) (by rw [c.hN]; exact hi) (c.loc x hl).1 (he X W c.toCxOk tk) ip_add (c.loc x hl).2) fun D σ H ⟨B, b, ρ, Z, h, env, G, er, p⟩ => by
    unfold dAug at p
    split at p
    · rename_i n e1
      obtain ⟨w, ew, rw1⟩ := er.2 i _ e1
      unfold rep at rw1
      subst rw1
      refine ⟨.int n, ew, B, b, ρ, Z, h, env, G, er, post.goS G er p fun ρ1 H1 v w1 h1 n1 rv q => ?_⟩
      split at q
      · rename_i m
        unfold rep at rv
        exact ⟨n, m, rfl, rv, q ρ1 H1 _ n1 ((er.step n1 G).set rep_int)⟩
      · exact q.elim
    · exact p.elim
/-! ## {} -/
def mkD (m : Bool) (ks : List Key) (vs : List PV) (h : AH) : R PV := if m then .ok (.ref h.length) (h ++ [.dic ks vs]) else .ok (.dic ks vs) h
theorem mkD_ok {B : List Nat} {b : Nat} {ρ Z : List Addr} {h : AH} {H : Hp} {Q : VK} {p : Addr} {m : Bool} {ks : List Key} {xs : List PV} {vs : List V} (hl : ks.length = vs.length) (G : Good T.cA T.K B b ρ Z h H) (hp : H p = none) (r : repL T.cA T.K ρ Z H xs vs) (q : post0 T B b ρ Z H (mkD m ks xs h) Q) :
    Q (.ref p) (upd H p (.dK (ks.zip vs))) := by
  unfold mkD at q
  cases m with
  | false =>
    have n := G.new (o := .dK (ks.zip vs)) hp
    refine q ρ _ (.ref p) n ?_
    unfold rep
    exact ⟨p, vs, rfl, upd_same, hl, G.still hp, n.repL G r⟩
  | true =>
    have s : Step ρ Z H (ρ ++ [p]) (upd H p (.dK (ks.zip vs))) := step_push hp (G.newZ hp)
    have n := G.push (o := .dK (ks.zip vs)) (ao := .dic ks xs) hp ⟨vs, upd_same, hl, repL_step s G.written r⟩
    refine q (ρ ++ [p]) _ (.ref p) n ?_
    unfold rep
    exact ⟨p, rfl, by rw [← G.len]; simp⟩
def dDic0 (m : Bool) : Dn PV := fun _ _ h => mkD m [] [] h
theorem mkD_noExc {m : Bool} {ks : List Key} {xs : List PV} {h : AH} : noExc (mkD m ks xs h) = mkD m ks xs h := by unfold mkD; split <;> rfl
theorem se_dic0 {m : Bool} {pos : Pos} : SE T k N sc (.Dict [] [] pos) (dDic0 m) := fun X W c tk =>
  PEimp pe_dnewK fun σ H Q ⟨B, b, ρ, Z, h, env, G, er, p⟩ => fun p' hp => mkD_ok (ks := []) (vs := []) rfl G hp .nil (by unfold dDic0 at p; rw [← mkD_noExc] at p; exact p.to0)
/-! ## dict(pairs) -/
def pairOf : PV → Option (Key × PV)
  | .tup [x, v] => (keyOf x).map fun k => (k, v)
  | _ => none
def mergeP (ks : List Key) (vs : List PV) : List (Key × PV) → List Key × List PV
  | [] => (ks, vs)
  | (k, v) :: r => mergeP (dPutK ks k) (dPutV ks vs k v) r
def fDictOf (m : Bool) : List PV → Nat → AH → R PV := fun xs _ h => match xs with
  | [x] => (match (lstOf h x).bind fun ys => ys.mapM pairOf with
    | some ps => mkD m (mergeP [] [] ps).1 (mergeP [] [] ps).2 h
    | none => .bad)
  | _ => .bad
def rDictOf (K : PySem.W.Frag) : List V → Hp → VK → Prop := fun xs H Q => ∃ a ps kvs, xs = [V.ref a] ∧ SqL K H a (List.map V.ref ps) ∧ Paired (fun p kv => SqT K H p [kV (kv : Key × V).1, kv.2]) ps kvs ∧ ∀ (p : Addr), H p = none → Q (V.ref p) (upd H p (HO.dK (mergeK [] kvs)))
theorem pairs_rep {ρ Z : List Addr} {H : Hp} : ∀ {ys : List PV} {vs : List V} {ps : List (Key × PV)}, repL T.cA T.K ρ Z H ys vs → ys.mapM pairOf = some ps → ∃ (as : List Addr) (kvs : List (Key × V)), vs = as.map V.ref ∧ Paired (fun p kv => SqT T.K H p [kV (kv : Key × V).1, kv.2]) as kvs ∧ Paired (fun (q : Key × PV) (kv : Key × V) => q.1 = kv.1 ∧ rep T.cA T.K ρ Z H q.2 kv.2) ps kvs
  | [], vs, ps, r, e => by
    unfold repL at r; subst r
    have : ps = [] := by simpa using e.symm
    subst this
    exact ⟨[], [], rfl, .nil, .nil⟩
  | y :: ys, vs, ps, r, e => by
    unfold repL at r
    obtain ⟨w, ws, rfl, h1, h2⟩ := r
    rw [List.mapM_cons] at e
    cases e1 : pairOf y with
    | none => rw [e1] at e; cases e
    | some q =>
      rw [e1] at e
      cases e2 : ys.mapM pairOf with
      | none => rw [e2] at e; cases e
      | some qs =>
        rw [e2] at e
        have e3 : q :: qs = ps := Option.some.inj e
        subst e3
        obtain ⟨as, kvs, rfl, p1, p2⟩ := pairs_rep h2 e2
        unfold pairOf at e1
        split at e1
        · rename_i x v
          obtain ⟨key, ek, rfl⟩ := Option.map_eq_some_iff.mp e1
          obtain ⟨a, us, rfl, s1, z1, r1⟩ := tup_rep h1
          obtain ⟨u1, u2, rfl, rx, rv⟩ := Op1' r1
          have := keyOf_rep rx ek
          subst this
          exact ⟨a :: as, (key, u2) :: kvs, rfl, .cons s1 p1, .cons ⟨rfl, rv⟩ p2⟩
        · cases e1
theorem merge_rep {ρ Z : List Addr} {H : Hp} : ∀ {ps : List (Key × PV)} {kvs : List (Key × V)} {ks : List Key} {vs : List PV} {ws : List V}, Paired (fun (q : Key × PV) (kv : Key × V) => q.1 = kv.1 ∧ rep T.cA T.K ρ Z H q.2 kv.2) ps kvs → ks.length = ws.length → repL T.cA T.K ρ Z H vs ws →
    ∃ us, mergeK (ks.zip ws) kvs = (mergeP ks vs ps).1.zip us ∧ (mergeP ks vs ps).1.length = us.length ∧ repL T.cA T.K ρ Z H (mergeP ks vs ps).2 us
  | [], kvs, ks, vs, ws, p, hl, r => by cases p; exact ⟨ws, rfl, hl, r⟩
  | q :: ps, kvs, ks, vs, ws, p, hl, r => by
    obtain ⟨qk, qv⟩ := q
    cases p with
    | cons h1 h2 =>
      rename_i kv kvs'
      obtain ⟨kk, kw⟩ := kv
      obtain ⟨e, rv⟩ := h1
      simp only at e
      subst e
      obtain ⟨p1, p2⟩ := put_zip (k := qk) (w := kw) hl
      obtain ⟨us, u1, u2, u3⟩ := merge_rep h2 p2 (put_rep (ks := ks) (k := qk) r rv)
      refine ⟨us, ?_, u2, u3⟩
      unfold mergeK at u1 ⊢
      rw [List.foldl_cons, p1]
      exact u1
theorem ol_dictOf {m : Bool} : OpL T (rDictOf T.K) (fDictOf m) := by
  intro B b ρ Z h H vs ws Q G rs p
  unfold fDictOf at p
  split at p
  · rename_i x
    obtain ⟨w, rfl, rx⟩ := Op1 rs
    split at p
    · rename_i ps e
      obtain ⟨ys, e1, e2⟩ := Option.bind_eq_some_iff.mp e
      obtain ⟨a, us, rfl, h1, z1, r1⟩ := lstOf_rep G rx e1
      obtain ⟨as, kvs, rfl, p1, p2⟩ := pairs_rep r1 e2
      obtain ⟨zs, m1, m2, m3⟩ := merge_rep (ks := []) (vs := []) (ws := []) p2 rfl .nil
      refine ⟨a, as, kvs, rfl, .inl (.inl h1), p1, fun p' hp => ?_⟩
      have m1' : mergeK [] kvs = (mergeP [] [] ps).1.zip zs := m1
      rw [m1']
      exact mkD_ok m2 G hp m3 p
    · exact p.elim
  · exact p.elim
theorem se_dict {m : Bool} {x : Str} {e : Expr} {ds : Dn (List PV)} {p pos : Pos} (hx : x = "dict") (hg : glB sc x = true) (hm : T.mg x = none) (ha : SA T k N sc [e] ds) (ns : notStar e = true) : SE T k N sc (.Call (.Name x p) [e] [] pos) (dOpL (fDictOf m) ds) := by
  subst hx
  exact se_ty (r := rDictOf T.K) (fun X c => by rw [← c.hK]; exact call_dictP c.calm) ol_dictOf hg hm (by decide +kernel) ha (by decide) (by decide) ns (by rfl)
end
end Mn
end
section
set_option Elab.async false
set_option linter.all false
set_option maxRecDepth 100000
namespace Mn
open PySem PySem.Spec L2

section
variable {T : Tt} {B : List Nat} {b : Nat} {ρ Z : List Addr} {h : AH} {H : Hp}
/-- items that stay -/
def itS (xs : List PV) : ItP := ⟨xs.length, fun _ i => xs[i]?, fun _ => true⟩
/-- a named list's items, as they stand -/
def itN (n : Nat) (len : Nat) : ItP := ⟨len, fun h i => (lstOf h (.ref n)).bind fun xs => xs[i]?, fun h => match lstOf h (.ref n) with
  | some xs => Nat.beq xs.length len
  | none => false⟩
theorem sqL_inj {H : Hp} {a : Addr} {vs : List V} {xs : List V} {K : PySem.W.Frag} (hk : True) (e : H a = some (.lst vs)) : SqL K H a vs := .inl (.inl e)
/-- one address, one list -/
def RdU (K : PySem.W.Frag) (H : Hp) (a : Addr) : Prop := True
theorem itr_lst {xs : List PV} {vs : List V} {a : Addr} (G : Good T.cA T.K B b ρ Z h H) (e : H a = some (.lst vs)) (st : Still ρ Z a) (hz : xs.length ≤ sizeLine) (r : repL T.cA T.K ρ Z H xs vs) : ItR T B b ρ Z H (itS xs) (Itl T.K a) := by
  have at_ : ∀ Z' ρ' H', ZX H Z Z' → Step ρ Z H ρ' H' → H' a = some (.lst vs) ∧ repL T.cA T.K ρ' Z' H' xs vs := fun Z' ρ' H' zx s => ⟨(s.stillZ zx st e).2, repL_stepZ s G.written zx r⟩
  refine ⟨fun Z' ρ' h' H' i x zx G' s ex hi => ?_, hz, fun Z' ρ' h' H' zx G' s _ => ?_⟩
  · obtain ⟨e', r'⟩ := at_ Z' ρ' H' zx s
    obtain ⟨v, ev, rv⟩ := r'.get ex
    refine ⟨⟨vs, v, .inl (.inl e'), ev⟩, fun w H2 y => ?_⟩
    obtain ⟨rfl, y2⟩ := y
    have := y2 vs (.inl (.inl e'))
    rw [ev] at this
    cases this
    exact ⟨G'.nxt, rv⟩
  · obtain ⟨e', r'⟩ := at_ Z' ρ' H' zx s
    exact ⟨vs, .inl (.inl e'), by rw [← r'.length]; exact Nat.le_refl _⟩
theorem itr_tup {xs : List PV} {vs : List V} {a : Addr} (G : Good T.cA T.K B b ρ Z h H) (e : SqT T.K H a vs) (hz : xs.length ≤ sizeLine) (r : repL T.cA T.K ρ Z H xs vs) : ItR T B b ρ Z H (itS xs) (Itt T.K a) := by
  have at_ : ∀ Z' ρ' H', ZX H Z Z' → Step ρ Z H ρ' H' → SqT T.K H' a vs ∧ repL T.cA T.K ρ' Z' H' xs vs := fun Z' ρ' H' zx s => ⟨s.sqT G.written.noTup e, repL_stepZ s G.written zx r⟩
  refine ⟨fun Z' ρ' h' H' i x zx G' s ex hi => ?_, hz, fun Z' ρ' h' H' zx G' s _ => ?_⟩
  · obtain ⟨e', r'⟩ := at_ Z' ρ' H' zx s
    obtain ⟨v, ev, rv⟩ := r'.get ex
    refine ⟨⟨vs, v, e', ev⟩, fun w H2 y => ?_⟩
    obtain ⟨rfl, y2⟩ := y
    have := y2 vs e'
    rw [ev] at this
    cases this
    exact ⟨G'.nxt, rv⟩
  · obtain ⟨e', r'⟩ := at_ Z' ρ' H' zx s
    exact ⟨vs, e', by rw [← r'.length]; exact Nat.le_refl _⟩
theorem itr_scr {ns : List Int} {a : Addr} {o : Obj} (G : Good T.cA T.K B b ρ Z h H) (e : H a = some (.frz o (.lst (ns.map V.int)))) (st : Still ρ Z a) (hz : ns.length ≤ sizeLine) : ItR T B b ρ Z H (itS (ns.map PV.int)) (Itl T.K a) := by
  have at_ : ∀ Z' ρ' H', ZX H Z Z' → Step ρ Z H ρ' H' → SqL T.K H' a (ns.map V.int) := fun Z' ρ' H' zx s => .inl (.inr ⟨o, (s.stillZ zx st e).2⟩)
  refine ⟨fun Z' ρ' h' H' i x zx G' s ex hi => ?_, by simpa [itS] using hz, fun Z' ρ' h' H' zx G' s _ => ?_⟩
  · have e' := at_ Z' ρ' H' zx s
    simp only [itS, List.getElem?_map] at ex
    obtain ⟨n, en, rfl⟩ := Option.map_eq_some_iff.mp ex
    refine ⟨⟨_, .int n, e', by simp [en]⟩, fun w H2 y => ?_⟩
    obtain ⟨rfl, y2⟩ := y
    have := y2 _ e'
    rw [List.getElem?_map, en] at this
    cases this
    exact ⟨G'.nxt, rep_int⟩
  · exact ⟨_, at_ Z' ρ' H' zx s, by simp [itS]⟩
theorem itr_ref {n : Nat} {a : Addr} {xs : List PV} (G : Good T.cA T.K B b ρ Z h H) (ea : ρ[n]? = some a) (hz : xs.length ≤ sizeLine) : ItR T B b ρ Z H (itN n xs.length) (Itl T.K a) := by
  have at_ : ∀ Z' ρ' h' H' ys, Good T.cA T.K B b ρ' Z' h' H' → Step ρ Z H ρ' H' → lstOf h' (.ref n) = some ys → ∃ vs, H' a = some (.lst vs) ∧ repL T.cA T.K ρ' Z' H' ys vs := by
    intro Z' ρ' h' H' ys G' s e
    obtain ⟨m, em, _⟩ := s.pre
    have ea' : ρ'[n]? = some a := by rw [em, List.getElem?_append_left (List.getElem?_eq_some_iff.mp ea).1]; exact ea
    simp only [lstOf] at e
    split at e
    · rename_i zs q
      cases e
      obtain ⟨vs, h1, _, r1⟩ := G'.obj n a _ ea' q
      exact ⟨vs, h1, r1⟩
    · cases e
  refine ⟨fun Z' ρ' h' H' i x zx G' s ex hi => ?_, hz, fun Z' ρ' h' H' zx G' s hf => ?_⟩
  · obtain ⟨ys, ey, ei⟩ := Option.bind_eq_some_iff.mp ex
    obtain ⟨vs, h1, r1⟩ := at_ Z' ρ' h' H' ys G' s ey
    obtain ⟨v, ev, rv⟩ := r1.get ei
    refine ⟨⟨vs, v, .inl (.inl h1), ev⟩, fun w H2 y => ?_⟩
    obtain ⟨rfl, y2⟩ := y
    have := y2 vs (.inl (.inl h1))
    rw [ev] at this
    cases this
    exact ⟨G'.nxt, rv⟩
  · simp only [itN] at hf
    split at hf
    · rename_i ys ey
      obtain ⟨vs, h1, r1⟩ := at_ Z' ρ' h' H' ys G' s ey
      exact ⟨vs, .inl (.inl h1), by rw [← r1.length]; exact Nat.le_of_eq (Nat.eq_of_beq_eq_true hf)⟩
    · cases hf
def sgnS (z : Str) : List PV := z.cps.toList.map fun c => .str ⟨#[c]⟩
theorem itr_str {z : Str} (hz : z.length ≤ sizeLine) : ItR T B b ρ Z H (itS (sgnS z)) (Its z) := by
  refine ⟨fun Z' ρ' h' H' i x zx G' s ex hi => ?_, by simpa [itS, sgnS, Str.length] using hz, fun Z' ρ' h' H' zx G' s _ => by show z.cps.size ≤ _; simp [itS, sgnS]⟩
  have hi' : i < z.cps.size := by simpa [itS, sgnS] using hi
  refine ⟨hi', fun w H2 y => ?_⟩
  obtain ⟨rfl, c, ec, rfl⟩ := y
  simp only [itS, sgnS, List.getElem?_map, Array.getElem?_toList, ec, Option.map_some, Option.some.injEq] at ex
  subst ex
  exact ⟨G'.nxt, rep_str⟩
end
section
variable {T : Tt} {k : Nat} {N : List Str} {sc : Scope}
/-! ## for x in e: a list, a tuple, the script, a text -/
def seqI (h : AH) : PV → Option ItP
  | .lst xs => some (itS xs)
  | .tup xs => some (itS xs)
  | .scr ns => if szOk ns.length = true then some (itS (ns.map PV.int)) else none
  | .str z => if szOk z.length = true then some (itS (sgnS z)) else none
  | .ref n => (lstOf h (.ref n)).map fun xs => itN n xs.length
  | _ => none
def dSeqI (d : Dn PV) : Dn ItP := fun env b h => (d env b h).bind fun x h1 => match seqI h1 x with
  | some it => .ok it h1
  | none => .bad
theorem PIrun {X : Cx} {tg e : Expr} {t : TI} (h : ∀ (pins : List (Addr × Obj)) (s : Shared) (σ : L2.St) (H : Hp) (R : It → Hp → Prop), t σ H R → ∃ t', PI X tg e t' ∧ t' σ H R) : PI X tg e t :=
  ⟨fun pins s σ H R I q => let ⟨_, p, q'⟩ := h pins s σ H R q; p.run pins s σ H R I q'⟩
theorem si_seq {tg e : Expr} {d : Dn PV} (he : SE T k N sc e d) : SI T k N sc tg e (dSeqI d) := fun X W c tk => PIrun fun pins s σ H R ⟨B, b, ρ, Z, h, env, G, er, p⟩ => by
  have pe := he X W c tk
  unfold dSeqI at p
  have base : ∀ (x : PV) (h1 : AH), d env b h = .ok x h1 → ∀ (Q : VK), (∀ ρ1 H1 w, Nxt T.cA T.K B b ρ Z H ρ1 h1 H1 → rep T.cA T.K ρ1 Z H1 x w → Q w H1) → tE T W d σ H Q := fun x h1 e0 Q g => ⟨B, b, ρ, Z, h, env, G, er, by rw [e0]; exact g⟩
  cases ed : d env b h with
  | bad => rw [ed] at p; exact p.elim
  | exc fr c' as h' => rw [ed] at p; exact ⟨_, pi_list pe, B, b, ρ, Z, h, env, G, er, by rw [ed]; exact p⟩
  | ok x h1 =>
    rw [ed] at p
    simp only [Mn.R.bind_ok] at p
    split at p
    · rename_i it ei
      cases x with
      | lst xs =>
        cases ei
        refine ⟨_, pi_list pe, base _ h1 ed _ fun ρ1 H1 w n r => ?_⟩
        unfold rep at r
        obtain ⟨a, vs, rfl, h2, st, hz, r2⟩ := r
        rw [c.hK]
        exact ⟨a, rfl, ⟨vs, .inl (.inl h2)⟩, p ρ1 H1 _ n (itr_lst n.good h2 st hz r2)⟩
      | tup xs =>
        cases ei
        refine ⟨_, pi_tup pe, base _ h1 ed _ fun ρ1 H1 w n r => ?_⟩
        obtain ⟨a, vs, rfl, h2, hz, r2⟩ := tup_rep r
        rw [c.hK]
        exact ⟨a, rfl, ⟨vs, h2⟩, p ρ1 H1 _ n (itr_tup n.good h2 hz r2)⟩
      | scr ns =>
        simp only [seqI] at ei
        split at ei
        · rename_i hz
          cases ei
          refine ⟨_, pi_list pe, base _ h1 ed _ fun ρ1 H1 w n r => ?_⟩
          unfold rep at r
          obtain ⟨a, o, rfl, h2, st⟩ := r
          rw [c.hK]
          exact ⟨a, rfl, ⟨_, .inl (.inr ⟨o, h2⟩)⟩, p ρ1 H1 _ n (itr_scr n.good h2 st (szOk_iff.mp hz))⟩
        · cases ei
      | str z =>
        simp only [seqI] at ei
        split at ei
        · rename_i hz
          cases ei
          refine ⟨_, pi_str pe, base _ h1 ed _ fun ρ1 H1 w n r => ?_⟩
          unfold rep at r
          exact ⟨z, r, p ρ1 H1 _ n (itr_str (szOk_iff.mp hz))⟩
        · cases ei
      | ref n =>
        simp only [seqI] at ei
        obtain ⟨xs, ex, rfl⟩ := Option.map_eq_some_iff.mp ei
        refine ⟨_, pi_list pe, base _ h1 ed _ fun ρ1 H1 w n1 r => ?_⟩
        obtain ⟨a, vs, rfl, h2, hz, r2⟩ := lstOf_rep n1.good r ex
        obtain ⟨a', e', ea⟩ := ref_rep r
        cases e'
        rw [c.hK]
        exact ⟨a, rfl, ⟨vs, .inl (.inl h2)⟩, p ρ1 H1 _ n1 (itr_ref n1.good ea hz)⟩
      | _ => cases ei
    · exact p.elim
/-! ## range -/
def itRg (lo : Int) (n : Nat) : ItP := ⟨n, fun _ i => some (.int (lo + (i : Nat))), fun _ => true⟩
theorem itr_rng {B : List Nat} {b : Nat} {ρ Z : List Addr} {H : Hp} {lo : Int} {n : Nat} (hz : n ≤ sizeLine) : ItR T B b ρ Z H (itRg lo n) (Itr lo n) :=
  ⟨fun Z' ρ' h' H' i x zx G' s ex hi => ⟨hi, fun w H2 ⟨e1, e2⟩ => by subst e1 e2; simp only [itRg, Option.some.injEq] at ex; subst ex; exact ⟨G'.nxt, rep_int⟩⟩, hz, fun _ _ _ _ _ _ _ _ => Nat.le_refl _⟩
def dRng1 (ds : Dn (List PV)) : Dn ItP := fun env b h => (ds env b h).bind fun xs h1 => match xs with
  | [.int i] => if decide (i ≤ 16777216) = true ∧ decide (-4611686018427387904 ≤ i) = true then .ok (itRg 0 i.toNat) h1 else .bad
  | _ => .bad
def dRng2 (ds : Dn (List PV)) : Dn ItP := fun env b h => (ds env b h).bind fun xs h1 => match xs with
  | [.int i, .int j] => if decide (j ≤ 16777216) = true ∧ decide (-4611686018427387904 ≤ j) = true ∧ decide (i ≤ 16777216) = true ∧ decide (0 ≤ i) = true then .ok (itRg i (j - i).toNat) h1 else .bad
  | _ => .bad
theorem si_rng1 {x : Str} {tg a : Expr} {ds : Dn (List PV)} {p pos : Pos} (hx : x = "range") (hg : glB sc x = true) (hm : T.mg x = none) (ha : SA T k N sc [a] ds) (ns : notStar a = true) : SI T k N sc tg (.Call (.Name x p) [a] [] pos) (dRng1 ds) := fun X W c tk => by
  subst hx
  refine ⟨fun pins s σ H Q I ⟨B, b, ρ, Z, h, env, G, er, q⟩ => (pi_range1 (c.gl _ hg) (by rw [c.hmg]; exact hm) (ha X W c tk) (starEach_cons ns)).run pins s σ H Q I ⟨B, b, ρ, Z, h, env, G, er, postA.go .postI q fun ρ1 H1 vs ws h1 n rs q => ?_⟩⟩
  split at q
  · rename_i i
    obtain ⟨w, rfl, rx⟩ := Op1 rs
    unfold rep at rx
    subst rx
    split at q
    · rename_i hc
      simp only [decide_eq_true_eq] at hc
      have e2 : (2 : Int) ^ 62 = 4611686018427387904 := by decide
      exact ⟨i, rfl, by omega, by omega, q ρ1 H1 _ n (itr_rng (by rw [sizeLine_eq]; omega))⟩
    · exact q.elim
  · exact q.elim
theorem si_rng2 {x : Str} {tg a e : Expr} {ds : Dn (List PV)} {p pos : Pos} (hx : x = "range") (hg : glB sc x = true) (hm : T.mg x = none) (ha : SA T k N sc [a, e] ds) (ns : notStar a = true) (ns2 : notStar e = true) : SI T k N sc tg (.Call (.Name x p) [a, e] [] pos) (dRng2 ds) := fun X W c tk => by
  subst hx
  refine ⟨fun pins s σ H Q I ⟨B, b, ρ, Z, h, env, G, er, q⟩ => (pi_range2 (c.gl _ hg) (by rw [c.hmg]; exact hm) (ha X W c tk) (by rw [starEach_cons ns, starEach_cons ns2]; rfl) (starEach_cons ns2)).run pins s σ H Q I ⟨B, b, ρ, Z, h, env, G, er, postA.go .postI q fun ρ1 H1 vs ws h1 n rs q => ?_⟩⟩
  split at q
  · rename_i i j
    obtain ⟨w, u, rfl, rx, ry⟩ := Op1' rs
    unfold rep at rx ry
    subst rx ry
    split at q
    · rename_i hc
      simp only [decide_eq_true_eq] at hc
      have e2 : (2 : Int) ^ 62 = 4611686018427387904 := by decide
      exact ⟨i, j, rfl, ⟨by omega, by omega, by omega, by omega⟩, q ρ1 H1 _ n (itr_rng (by rw [sizeLine_eq]; omega))⟩
    · exact q.elim
  · exact q.elim
/-! ## enumerate of a list -/
def itEn (it : ItP) : ItP := ⟨it.n, fun h i => (it.get h i).map fun x => .tup [.int (i : Nat), x], it.fin⟩
/-- the items of a walked list, in new pairs -/
theorem pair_new {B : List Nat} {b : Nat} {ρ Z : List Addr} {h : AH} {H : Hp} {p : Addr} {x y : PV} {v w : V} (G : Good T.cA T.K B b ρ Z h H) (hp : H p = none) (rx : rep T.cA T.K ρ Z H x v) (ry : rep T.cA T.K ρ Z H y w) :
    Nxt T.cA T.K B b ρ Z H ρ h (upd H p (.tup [v, w])) ∧ rep T.cA T.K ρ Z (upd H p (.tup [v, w])) (.tup [x, y]) (.ref p) := by
  have n := G.new (o := .tup [v, w]) hp
  refine ⟨n, rep_tup (.inl (.inl upd_same)) (by show 2 ≤ sizeLine; rw [sizeLine_eq]; decide) (n.repL G ?_)⟩
  exact repL_cons.mpr ⟨rx, .one ry⟩
theorem itr_enum {B : List Nat} {b : Nat} {ρ Z : List Addr} {H : Hp} {it : ItP} {a : Addr} (r : ItR T B b ρ Z H it (Itl T.K a)) : ItR T B b ρ Z H (itEn it) (Ite T.K a) := by
  refine ⟨fun Z' ρ' h' H' i x zx G' s ex hi => ?_, r.small, fun Z' ρ' h' H' zx G' s hf => r.stop Z' ρ' h' H' zx G' s hf⟩
  obtain ⟨x0, e0, rfl⟩ := Option.map_eq_some_iff.mp ex
  obtain ⟨go, yl⟩ := r.go Z' ρ' h' H' i x0 zx G' s e0 hi
  refine ⟨go, fun w H2 y => ?_⟩
  obtain ⟨p, v, rfl, hp, rfl, hv⟩ := y
  obtain ⟨_, rv⟩ := yl v H' ⟨rfl, hv⟩
  exact pair_new G' hp rep_int rv
def dEnum (ds : Dn (List PV)) : Dn ItP := fun env b h => (ds env b h).bind fun xs h1 => match xs with
  | [.lst ys] => .ok (itEn (itS ys)) h1
  | [.ref n] => (match lstOf h1 (.ref n) with
    | some ys => .ok (itEn (itN n ys.length)) h1
    | none => .bad)
  | _ => .bad
theorem si_enum {x : Str} {e : Expr} {elts : List Expr} {kk : Nat} {tpos : Pos} {ds : Dn (List PV)} {p pos : Pos} (hx : x = "enumerate") (hg : glB sc x = true) (hm : T.mg x = none) (ha : SA T k N sc [e] ds) (ns : notStar e = true) : SI T k N sc (.Tuple elts kk tpos) (.Call (.Name x p) [e] [] pos) (dEnum ds) := fun X W c tk => by
  subst hx
  refine ⟨fun pins s σ H Q I ⟨B, b, ρ, Z, h, env, G, er, q⟩ => (pi_enum (c.gl _ hg) (by rw [c.hmg]; exact hm) (ha X W c tk) (starEach_cons ns)).run pins s σ H Q I ⟨B, b, ρ, Z, h, env, G, er, postA.go .postI q fun ρ1 H1 vs ws h1 n rs q => ?_⟩⟩
  split at q
  · rename_i ys
    obtain ⟨w, rfl, r⟩ := Op1 rs
    unfold rep at r
    obtain ⟨a, vs, rfl, h2, st, hz, r2⟩ := r
    rw [c.hK]
    exact ⟨a, vs, rfl, .inl (.inl h2), q ρ1 H1 _ n (itr_enum (itr_lst n.good h2 st hz r2))⟩
  · rename_i m
    split at q
    · rename_i ys ex
      obtain ⟨w, rfl, r⟩ := Op1 rs
      obtain ⟨a, vs, rfl, h2, hz, r2⟩ := lstOf_rep n.good r ex
      obtain ⟨a', e', ea⟩ := ref_rep r
      cases e'
      rw [c.hK]
      exact ⟨a, vs, rfl, .inl (.inl h2), q ρ1 H1 _ n (itr_enum (itr_ref n.good ea hz))⟩
    · exact q.elim
  · exact q.elim
end
end Mn
end
section
set_option Elab.async false
set_option linter.all false
set_option maxRecDepth 100000
namespace Mn
open PySem PySem.Spec L2 PyProof.Rows

/-! ## zip of two, each a list or a tuple -/
def SqK (ky : Bool) (K : PySem.W.Frag) (H : Hp) (a : Addr) (xs : List V) : Prop := if ky = true then SqL K H a xs else SqT K H a xs
def KIter (ky : Bool) (h : Heap) (it a : Addr) (i : Nat) : Prop := if ky = true then h.IsListIter it a i else h.IsTupleIter it a i
def KIs (ky : Bool) (h : Heap) (a : Addr) (its : Array Value) : Prop := if ky = true then h.IsList a its else h.IsTuple a its
theorem KIter.at_ {ky : Bool} {h h' : Heap} {it a : Addr} {i : Nat} (q : KIter ky h it a i) (k : ∀ o, h.get? it = some o → h'.get? it = some o) : KIter ky h' it a i := by
  cases ky with
  | true => exact Heap.IsListIter.at (show h.IsListIter it a i from q) k
  | false => exact Heap.IsTupleIter.at (show h.IsTupleIter it a i from q) k
theorem KIter.obj {ky : Bool} {h : Heap} {it a : Addr} {i : Nat} (q : KIter ky h it a i) : ∃ o, h.get? it = some o ∧ ∀ v, o.data ≠ .cell v := by
  cases ky with
  | true => obtain ⟨o, e, _, d⟩ := (show h.IsListIter it a i from q); exact ⟨o, e, fun v z => by rw [d] at z; cases z⟩
  | false => obtain ⟨o, e, _, d⟩ := (show h.IsTupleIter it a i from q); exact ⟨o, e, fun v z => by rw [d] at z; cases z⟩
theorem drawsK (ky : Bool) {prog : Program} {w : World} {A : Around} (hh : A.handled = none) (it a : Addr) (hne : a ≠ it) (its : Array Value) :
    Draws prog w A it [it, a] its.size (fun i v => its[i]? = some v) (fun i h => KIter ky h it a i ∧ KIs ky h a its) := by
  cases ky with
  | true => exact Draws.list hh it a hne its
  | false => exact Draws.tuple hh it a hne its
section
variable {X : Cx} {pins : List (Addr × Obj)} {σ : L2.St} {H : Hp} {s : Shared}
theorem SqK.is {ky : Bool} {a : Addr} {xs : List V} (I : L2.Inv X pins σ H s) (q : SqK ky X.K H a xs) : ∃ its : List Value, Vals xs its ∧ KIs ky s.heap a its.toArray ∧ a < s.heap.objs.size := by
  cases ky with
  | true => obtain ⟨its, r, p, _⟩ := I.list (show SqL X.K H a xs from q); exact ⟨its, r, p.isList, p.lt⟩
  | false => obtain ⟨its, r, p, _⟩ := I.tuple (show SqT X.K H a xs from q); obtain ⟨o, ho, _⟩ := id p; exact ⟨its, r, p, Heap.lt_size ho⟩
theorem SqK.inj {ky : Bool} {a : Addr} {xs ys : List V} (I : L2.Inv X pins σ H s) (q : SqK ky X.K H a xs) (q' : SqK ky X.K H a ys) : xs = ys := by
  cases ky with
  | true => exact I.list_inj (show SqL X.K H a xs from q) q'
  | false => exact I.tuple_inj (show SqT X.K H a xs from q) q'
end
def ItzM (K : PySem.W.Frag) (kx ky : Bool) (a c : Addr) : It :=
  ⟨fun i H => ∃ (xs ys : List V) (x y : V), SqK kx K H a xs ∧ SqK ky K H c ys ∧ xs[i]? = some x ∧ ys[i]? = some y,
    fun i H v H' => ∃ T x y, v = .ref T ∧ H T = none ∧ H' = upd H T (.tup [x, y]) ∧ (∀ xs, SqK kx K H a xs → xs[i]? = some x) ∧ ∀ ys, SqK ky K H c ys → ys[i]? = some y,
    fun i H => ∃ xs ys : List V, SqK kx K H a xs ∧ SqK ky K H c ys ∧ i ≤ xs.length ∧ i ≤ ys.length ∧ (i = xs.length ∨ i = ys.length)⟩
theorem turn_zipM {P : Program} {w : World} {K : PySem.W.Frag} {elts : List Expr} {kk : Nat} {tpos : Pos} {kx ky : Bool} {a c z TI TO i1 i2 : Addr} (D : ZipApart z TI TO i1 i2 a c) :
    L2.Turn P w K (.Tuple elts kk tpos) (ItzM K kx ky a c) [z, TI, TO, i1, i2] z (fun i h => IsZip h z TI TO .none ∧ IsPair h TI (.ref i1) (.ref i2) ∧ (∃ x y, IsPair h TO x y) ∧ KIter kx h i1 a i ∧ KIter ky h i2 c i) := by
  have five : ∀ e, e ∈ [z, TI, TO, i1, i2] ↔ (e = z ∨ e = TI ∨ e = TO ∨ e = i1 ∨ e = i2) := fun e => by simp
  have sep : ZipSep2 z TI TO i1 i2 [i1, a] [i2, c] :=
    { TIz := D.TIz, TOz := D.TOz, TITO := D.TITO, TIi1 := D.TIi1, mem1 := List.mem_cons_self, TIi2 := D.TIi2, mem2 := List.mem_cons_self
      zf1 := by simp; exact ⟨D.i1z.symm, D.l1z.symm⟩, Tf1 := by simp; exact ⟨D.TOi1, D.l1TO.symm⟩
      zf2 := by simp; exact ⟨D.i2z.symm, D.l2z.symm⟩, Tf2 := by simp; exact ⟨D.TOi2, D.l2TO.symm⟩
      sep1_2 := by simp; exact ⟨D.i12, D.l2i1.symm⟩, sep2_1 := by simp; exact ⟨D.i12.symm, D.l1i2.symm⟩ }
  refine ⟨by simp, fun i h st e he => ?_, fun i h h' st k => ?_, ?_, ?_, fun A i s Q E st hq => wpAny_pyIter_zip st.1 hq⟩
  · obtain ⟨hz, hTI, ⟨x, y, hTO⟩, h1, h2⟩ := st
    rcases (five e).mp he with q | q | q | q | q <;> subst q
    · exact ⟨_, hz, fun v q => nomatch q⟩
    · exact ⟨_, hTI, fun v q => nomatch q⟩
    · exact ⟨_, hTO, fun v q => nomatch q⟩
    · exact h1.obj
    · exact h2.obj
  · obtain ⟨hz, hTI, ⟨x, y, hTO⟩, h1, h2⟩ := st
    have m := fun e he => (five e).mpr he
    exact ⟨k z (m _ (.inl rfl)) _ hz, k TI (m _ (.inr (.inl rfl))) _ hTI, ⟨x, y, k TO (m _ (.inr (.inr (.inl rfl)))) _ hTO⟩, h1.at_ fun o q => k i1 (m _ (.inr (.inr (.inr (.inl rfl))))) o q, h2.at_ fun o q => k i2 (m _ (.inr (.inr (.inr (.inr rfl))))) o q⟩
  · intro X hP hw hK hc i pins s σ H E I hf st hg
    subst hP hw hK
    obtain ⟨hz, hTI, ⟨x0, y0, hTO⟩, h1, h2⟩ := st
    obtain ⟨xs, ys, x, y, hqx, hqy, hx, hy⟩ := hg
    obtain ⟨its, rv, p, la⟩ := hqx.is I
    obtain ⟨its2, rv2, p2, lc⟩ := hqy.is I
    obtain ⟨u, hu, ru⟩ := rv.get hx
    obtain ⟨u2, hu2, ru2⟩ := rv2.get hy
    have n1 : i < its.toArray.size := by simpa using (List.getElem?_eq_some_iff.mp hu).1
    have n2 : i < its2.toArray.size := by simpa using (List.getElem?_eq_some_iff.mp hu2).1
    have hzl : z < s.heap.objs.size := Heap.lt_size hz
    refine wpAny_pyNext_zipD2_item sep (drawsK kx (A := X.A.in1) (I.ok.hd hc) i1 a D.l1i1 its.toArray) (drawsK ky (A := X.A.in1) (I.ok.hd hc) i2 c D.l2i2 its2.toArray) hz hTI hTO ⟨h1, p⟩ ⟨h2, p2⟩ n1 n2 fun v1 v2 h' tk e1 e2 z' TO' h1' h2' hT hsz hk => ?_
    have ev1 : v1 = u := by
      have e1' : its[i]? = some v1 := by simpa using e1
      rw [hu] at e1'
      exact (Option.some.inj e1').symm
    have ev2 : v2 = u2 := by
      have e2' : its2[i]? = some v2 := by simpa using e2
      rw [hu2] at e2'
      exact (Option.some.inj e2').symm
    subst ev1 ev2
    refine ⟨_, rfl, wpAny_letOwnedTupleGo_zip (s := { s with heap := h', toks := tk }) z' fun h'' z'' sb => ?_⟩
    have hT2 : h''.get? s.heap.objs.size = some { cls := .type "tuple", data := .seq #[v1, v2] } := (sb.2 _ (Nat.ne_of_gt hzl)).trans hT
    have new : ObjOk X.prog X.w (upd H s.heap.objs.size (.tup [x, y])) h'' s.heap.objs.size (.tup [x, y]) :=
      ⟨by show 2 ≤ sizeLine; decide, [v1, v2], .cons ru (.cons ru2 .nil), ⟨_, hT2, rfl, _, rfl⟩⟩
    have off : ∀ e o, e ∉ [z, TI, TO, i1, i2] → s.heap.get? e = some o → h''.get? e = some o := fun e o he q => by
      rw [five] at he
      simp only [not_or] at he
      exact (sb.2 e he.1).trans (hk e o he.1 he.2.2.1 he.2.2.2.1 he.2.2.2.2 q)
    have I1 : L2.Inv X pins σ (upd H s.heap.objs.size (.tup [x, y])) { s with heap := h'', toks := tk } := I.turnedNew (t' := tk) (ch := [z, TI, TO, i1, i2]) off hf (Nat.le_refl _) new
    refine ⟨.ref s.heap.objs.size, _, I1, rfl, ⟨_, x, y, rfl, I.hok.fresh (Nat.le_refl _), rfl, fun l hl => by rw [hl.inj I hqx]; exact hx, fun l hl => by rw [hl.inj I hqy]; exact hy⟩, ⟨z'', ?_, ⟨v1, v2, ?_⟩, ?_, ?_⟩, fun e he => ?_⟩
    · exact (sb.2 _ D.TIz).trans (hk _ _ D.TIz D.TITO D.TIi1 D.TIi2 hTI)
    · exact (sb.2 _ D.TOz).trans TO'
    · exact h1'.1.at_ fun o q => (sb.2 _ D.i1z).trans q
    · exact h2'.1.at_ fun o q => (sb.2 _ D.i2z).trans q
    · obtain ⟨oo, ho⟩ : ∃ o, s.heap.get? e = some o := by
        rcases (five e).mp he with q | q | q | q | q <;> subst q
        · exact ⟨_, hz⟩
        · exact ⟨_, hTI⟩
        · exact ⟨_, hTO⟩
        · obtain ⟨o, q, _⟩ := h1.obj; exact ⟨o, q⟩
        · obtain ⟨o, q, _⟩ := h2.obj; exact ⟨o, q⟩
      rw [upd_ne (Nat.ne_of_lt (Heap.lt_size ho))]
      exact (hf e he).1
  · intro X hP hw hK hc i pins s σ H E I hf st hg
    subst hP hw hK
    obtain ⟨hz, hTI, ⟨x0, y0, hTO⟩, h1, h2⟩ := st
    obtain ⟨xs, ys, hqx, hqy, le1, le2, hend⟩ := hg
    obtain ⟨its, rv, p, la⟩ := hqx.is I
    obtain ⟨its2, rv2, p2, lc⟩ := hqy.is I
    have l1 := rv.length
    have l2 := rv2.length
    refine wpAny_pyNext_zipD2_end sep (drawsK kx (A := X.A.in1) (I.ok.hd hc) i1 a D.l1i1 its.toArray) (drawsK ky (A := X.A.in1) (I.ok.hd hc) i2 c D.l2i2 its2.toArray) hz hTI hTO ⟨h1, p⟩ ⟨h2, p2⟩ (by simp; omega) (by simp; omega) (by simp; omega) fun h' tk hk => ⟨rfl, I.turnedL (t' := tk) (ch := [z, TI, TO, i1, i2]) (fun e o he q => ?_) hf⟩
    rw [five] at he
    simp only [not_or] at he
    exact hk e o he.1 he.2.2.1 he.2.2.2.1 he.2.2.2.2 q
def iZipM (K : PySem.W.Frag) (ta : TA) : TI := fun σ H R => ta σ H fun vs H1 => ∃ kx ky a c xs ys, vs = [.ref a, .ref c] ∧ SqK kx K H1 a xs ∧ SqK ky K H1 c ys ∧ R (ItzM K kx ky a c) H1
theorem beginsK (ky : Bool) (a : Addr) (its : Array Value) : Begins (.ref a) { cls := .type (if ky = true then "list_iterator" else "tuple_iterator"), data := .fields #[.ref a, .int 0 0] } fun h => KIs ky h a its := by
  cases ky with
  | true => exact begins_list a its
  | false => exact begins_tuple a its
theorem iter0 (ky : Bool) {h : Heap} {it a : Addr} (e : h.get? it = some { cls := .type (if ky = true then "list_iterator" else "tuple_iterator"), data := .fields #[.ref a, .int 0 0] }) : KIter ky h it a 0 := by
  cases ky with
  | true => exact ⟨_, e, rfl, rfl⟩
  | false => exact ⟨_, e, rfl, rfl⟩
theorem pi_zipM {X : Cx} {e e2 : Expr} {ta : TA} {p pos tpos : Pos} {elts : List Expr} {kk : Nat} (hg : Gl X "zip") (hm : X.mg "zip" = none) (ha : PA X [e, e2] ta) (hs : starEach [e, e2] X.env = (false, eval e X.env) :: starEach [e2] X.env) (hpl : (backTo pos (starEach [e2] X.env)).any (·.1) = false) :
    PI X (.Tuple elts kk tpos) (.Call (.Name "zip" p) [e, e2] [] pos) (iZipM X.K ta) := by
  refine ⟨fun pins s σ H R I h => ?_⟩
  refine Call_ (ld_blt I hg hm PyProof.Rows.boot_zip (PyProof.Rows.callWith_type1 (thn (ha.run pos pins s σ H _ I h) fun us s1 ⟨vs, H1, I1, r1, q1⟩ => ?_) hs hpl))
  obtain ⟨kx, ky, a, c, xs, ys, ex, hqx, hqy, q⟩ := q1
  subst ex
  cases r1 with
  | cons r rr =>
    cases rr with
    | cons r' rr =>
      cases rr
      cases r
      cases r'
      obtain ⟨its, rv, p1, la⟩ := hqx.is I1
      obtain ⟨its2, rv2, p2, lc⟩ := hqy.is I1
      refine zip_begins2 (beginsK kx a its.toArray) (beginsK ky c its2.toArray) p1 p2 fun h' hz hTI hTO g1 g2 hsz hk => wpAny_pyIter_zip hz ?_
      have I2 : L2.Inv X pins σ H1 { s1 with heap := h' } := I1.kept (t' := s1.toks) hk
      refine ⟨s1.heap.objs.size + 4, [s1.heap.objs.size + 4, s1.heap.objs.size + 2, s1.heap.objs.size + 3, s1.heap.objs.size, s1.heap.objs.size + 1], _, _, H1, rfl, I2, turn_zipM (PySem.W.ktu_apart s1.heap.objs.size a c la lc), ⟨hz, hTI, ⟨_, _, hTO⟩, iter0 kx g1, iter0 ky g2⟩, fun e he => ?_, q⟩
      have hle : s1.heap.objs.size ≤ e := by
        simp only [List.mem_cons, List.not_mem_nil, or_false] at he
        rcases he with z | z | z | z | z <;> rw [z]
        · exact Nat.le_add_right _ _
        · exact Nat.le_add_right _ _
        · exact Nat.le_add_right _ _
        · exact Nat.le_refl _
        · exact Nat.le_add_right _ _
      exact I1.fpOk hle (I1.hok.fresh hle)

section
variable {T : Tt} {k : Nat} {N : List Str} {sc : Scope}
/-- a walked thing that is a list or a tuple, and which -/
def srcP (h : AH) : PV → Option (Bool × ItP)
  | .lst xs => some (true, itS xs)
  | .tup xs => some (false, itS xs)
  | .ref n => (lstOf h (.ref n)).map fun xs => (true, itN n xs.length)
  | _ => none
def itZ (i1 i2 : ItP) : ItP := ⟨min i1.n i2.n, fun h i => match i1.get h i, i2.get h i with
  | some x, some y => some (.tup [x, y])
  | _, _ => none, fun h => i1.fin h && i2.fin h⟩
def dZip (ds : Dn (List PV)) : Dn ItP := fun env b h => (ds env b h).bind fun xs h1 => match xs with
  | [x, y] => (match srcP h1 x, srcP h1 y with
    | some p, some q => .ok (itZ p.2 q.2) h1
    | _, _ => .bad)
  | _ => .bad
/-- what a source reads at its place -/
structure SrcR (T : Tt) (B : List Nat) (b : Nat) (ρ Z : List Addr) (H : Hp) (ky : Bool) (it : ItP) (a : Addr) : Prop where
  small : it.n ≤ sizeLine
  now : ∃ vs, SqK ky T.K H a vs
  get : ∀ Z' ρ' h' H' i x, ZX H Z Z' → Good T.cA T.K B b ρ' Z' h' H' → Step ρ Z H ρ' H' → it.get h' i = some x → i < it.n → ∃ vs v, SqK ky T.K H' a vs ∧ vs[i]? = some v ∧ rep T.cA T.K ρ' Z' H' x v
  fin : ∀ Z' ρ' h' H', ZX H Z Z' → Good T.cA T.K B b ρ' Z' h' H' → Step ρ Z H ρ' H' → it.fin h' = true → ∃ vs, SqK ky T.K H' a vs ∧ vs.length = it.n
theorem src_rep {B : List Nat} {b : Nat} {ρ Z : List Addr} {h : AH} {H : Hp} (G : Good T.cA T.K B b ρ Z h H) {x : PV} {v : V} {p : Bool × ItP} (r : rep T.cA T.K ρ Z H x v) (e : srcP h x = some p) : ∃ a, v = .ref a ∧ SrcR T B b ρ Z H p.1 p.2 a := by
  cases x with
  | lst xs =>
    cases e
    unfold rep at r
    obtain ⟨a, vs, rfl, h1, st, hz, r2⟩ := r
    have at_ : ∀ Z' ρ' H', ZX H Z Z' → Step ρ Z H ρ' H' → H' a = some (.lst vs) ∧ repL T.cA T.K ρ' Z' H' xs vs := fun Z' ρ' H' zx s => ⟨(s.stillZ zx st h1).2, repL_stepZ s G.written zx r2⟩
    refine ⟨a, rfl, hz, ⟨vs, .inl (.inl h1)⟩, fun Z' ρ' h' H' i x zx G' s ex hi => ?_, fun Z' ρ' h' H' zx G' s _ => ?_⟩
    · obtain ⟨e', r'⟩ := at_ Z' ρ' H' zx s
      obtain ⟨v, ev, rv⟩ := r'.get ex
      exact ⟨vs, v, .inl (.inl e'), ev, rv⟩
    · obtain ⟨e', r'⟩ := at_ Z' ρ' H' zx s
      exact ⟨vs, .inl (.inl e'), r'.length.symm⟩
  | tup xs =>
    cases e
    obtain ⟨a, vs, rfl, h1, hz, r2⟩ := tup_rep r
    have at_ : ∀ Z' ρ' H', ZX H Z Z' → Step ρ Z H ρ' H' → SqT T.K H' a vs ∧ repL T.cA T.K ρ' Z' H' xs vs := fun Z' ρ' H' zx s => ⟨s.sqT G.written.noTup h1, repL_stepZ s G.written zx r2⟩
    refine ⟨a, rfl, hz, ⟨vs, h1⟩, fun Z' ρ' h' H' i x zx G' s ex hi => ?_, fun Z' ρ' h' H' zx G' s _ => ?_⟩
    · obtain ⟨e', r'⟩ := at_ Z' ρ' H' zx s
      obtain ⟨v, ev, rv⟩ := r'.get ex
      exact ⟨vs, v, e', ev, rv⟩
    · obtain ⟨e', r'⟩ := at_ Z' ρ' H' zx s
      exact ⟨vs, e', r'.length.symm⟩
  | ref n =>
    simp only [srcP] at e
    obtain ⟨xs, ex, rfl⟩ := Option.map_eq_some_iff.mp e
    obtain ⟨a, vs, rfl, h2, hz, r2⟩ := lstOf_rep G r ex
    obtain ⟨a', e', ea⟩ := ref_rep r
    cases e'
    have at_ : ∀ Z' ρ' h' H' ys, Good T.cA T.K B b ρ' Z' h' H' → Step ρ Z H ρ' H' → lstOf h' (.ref n) = some ys → ∃ vs, H' a = some (.lst vs) ∧ repL T.cA T.K ρ' Z' H' ys vs := by
      intro Z' ρ' h' H' ys G' s e
      obtain ⟨m, em, _⟩ := s.pre
      have ea' : ρ'[n]? = some a := by rw [em, List.getElem?_append_left (List.getElem?_eq_some_iff.mp ea).1]; exact ea
      simp only [lstOf] at e
      split at e
      · rename_i zs q
        cases e
        obtain ⟨vs, h1, _, r1⟩ := G'.obj n a _ ea' q
        exact ⟨vs, h1, r1⟩
      · cases e
    refine ⟨a, rfl, hz, ⟨vs, .inl (.inl h2)⟩, fun Z' ρ' h' H' i x zx G' s ex hi => ?_, fun Z' ρ' h' H' zx G' s hf => ?_⟩
    · obtain ⟨ys, ey, ei⟩ := Option.bind_eq_some_iff.mp ex
      obtain ⟨vs, h1, r1⟩ := at_ Z' ρ' h' H' ys G' s ey
      obtain ⟨v, ev, rv⟩ := r1.get ei
      exact ⟨vs, v, .inl (.inl h1), ev, rv⟩
    · simp only [itN] at hf
      split at hf
      · rename_i ys ey
        obtain ⟨vs, h1, r1⟩ := at_ Z' ρ' h' H' ys G' s ey
        exact ⟨vs, .inl (.inl h1), by rw [← r1.length]; exact Nat.eq_of_beq_eq_true hf⟩
      · cases hf
  | _ => cases e
theorem itr_zip {B : List Nat} {b : Nat} {ρ Z : List Addr} {H : Hp} {k1 k2 : Bool} {i1 i2 : ItP} {a c : Addr} (r1 : SrcR T B b ρ Z H k1 i1 a) (r2 : SrcR T B b ρ Z H k2 i2 c) : ItR T B b ρ Z H (itZ i1 i2) (ItzM T.K k1 k2 a c) := by
  refine ⟨fun Z' ρ' h' H' i x zx G' s ex hi => ?_, by have := r1.small; show min i1.n i2.n ≤ sizeLine; omega, fun Z' ρ' h' H' zx G' s hf => ?_⟩
  · have hi' : i < i1.n ∧ i < i2.n := by have : i < min i1.n i2.n := hi; omega
    simp only [itZ] at ex
    split at ex
    · rename_i x1 y1 e1 e2
      cases ex
      obtain ⟨vs, v, q1, g1, rv⟩ := r1.get Z' ρ' h' H' i x1 zx G' s e1 hi'.1
      obtain ⟨ws, w, q2, g2, rw'⟩ := r2.get Z' ρ' h' H' i y1 zx G' s e2 hi'.2
      refine ⟨⟨vs, ws, v, w, q1, q2, g1, g2⟩, fun u H2 y => ?_⟩
      obtain ⟨p, x2, y2, rfl, hp, rfl, m1, m2⟩ := y
      have := m1 vs q1
      rw [g1] at this
      cases this
      have := m2 ws q2
      rw [g2] at this
      cases this
      exact pair_new G' hp rv rw'
    · cases ex
  · simp only [itZ, Bool.and_eq_true] at hf
    obtain ⟨vs, q1, l1⟩ := r1.fin Z' ρ' h' H' zx G' s hf.1
    obtain ⟨ws, q2, l2⟩ := r2.fin Z' ρ' h' H' zx G' s hf.2
    have hm : (itZ i1 i2).n = min i1.n i2.n := rfl
    exact ⟨vs, ws, q1, q2, by rw [hm]; omega, by rw [hm]; omega, by rw [hm]; omega⟩
theorem si_zip {x : Str} {e e2 : Expr} {elts : List Expr} {kk : Nat} {tpos : Pos} {ds : Dn (List PV)} {p pos : Pos} (hx : x = "zip") (hg : glB sc x = true) (hm : T.mg x = none) (ha : SA T k N sc [e, e2] ds) (ns : notStar e = true) (ns2 : notStar e2 = true) :
    SI T k N sc (.Tuple elts kk tpos) (.Call (.Name x p) [e, e2] [] pos) (dZip ds) := fun X W c tk => by
  subst hx
  refine ⟨fun pins s σ H Q I ⟨B, b, ρ, Z, h, env, G, er, q⟩ => (pi_zipM (c.gl _ hg) (by rw [c.hmg]; exact hm) (ha X W c tk) (starEach_cons ns) (backTo_plain (by simp [ns2]))).run pins s σ H Q I ⟨B, b, ρ, Z, h, env, G, er, postA.go .postI q fun ρ1 H1 vs ws h1 n rs q => ?_⟩⟩
  split at q
  · rename_i x y
    obtain ⟨w, u, rfl, rx, ry⟩ := Op1' rs
    split at q
    · rename_i p1 p2 e1 e2
      obtain ⟨a, rfl, s1⟩ := src_rep n.good rx e1
      obtain ⟨c', rfl, s2⟩ := src_rep n.good ry e2
      obtain ⟨vs, q1⟩ := s1.now
      obtain ⟨ws, q2⟩ := s2.now
      rw [c.hK]
      exact ⟨p1.1, p2.1, a, c', vs, ws, rfl, q1, q2, q ρ1 H1 _ n (itr_zip s1 s2)⟩
    · exact q.elim
  · exact q.elim
end
end Mn
end
section
set_option Elab.async false
set_option linter.all false
set_option maxRecDepth 100000
namespace Mn
open PySem PySem.Spec L2 PyProof.Rows
open Sem (wp)

theorem zip_nolen : typeLookup (.type "zip") "__len__" = pure none := am_miss_of_fast (by decide +kernel)
theorem zip_nohint : typeLookup (.type "zip") "__length_hint__" = pure none := am_miss_of_fast (by decide +kernel)
section
variable {prog : Program} {w : World} {A : Around} {E : Value → Shared → Prop} {s : Shared} {z TI TO T i1 i2 : Addr} {fp1 fp2 : List Addr} {n1 n2 i : Nat} {P1 P2 : Nat → Value → Prop} {St1 St2 : Nat → Heap → Prop} {f : Bool} {oT : Obj}
/-- the next pair while the last one is held -/
theorem zh_item {Q : Value → Shared → Prop} (S : ZipSep2 z TI TO i1 i2 fp1 fp2) (D1 : Draws prog w A i1 fp1 n1 P1 St1) (D2 : Draws prog w A i2 fp2 n2 P2 St2) (zz : IsZipHeld s.heap z TI TO T f) (aT : s.heap.get? T = some oT) (zTI : IsPair s.heap TI (.ref i1) (.ref i2))
    (st1 : St1 i s.heap) (st2 : St2 i s.heap) (lt1 : i < n1) (lt2 : i < n2)
    (fin : ∀ x y h' tk, P1 i x → P2 i y → IsZipHeld h' z TI TO T true → St1 (i + 1) h' → St2 (i + 1) h' → IsPair h' s.heap.objs.size x y → h'.objs.size = s.heap.objs.size + 1 → (∀ c o, c ≠ z → c ≠ i1 → c ≠ i2 → s.heap.get? c = some o → h'.get? c = some o) → Q (.ref s.heap.objs.size) { s with heap := h', toks := tk }) :
    wpAny (model prog w) A (Builtin.«zip.__next__» ⟨[.ref z], []⟩) (fun r s' => ∃ v, r = .done (.ret v) ∧ Q v s') E s := by
  obtain ⟨hp, g, d, tk0, os⟩ := s
  show wpAny _ _ (field (.ref z) 2 >>= _) _ _ _; refine wpAny_bind (wpAny_field zz rfl (x := .bool false) rfl ?_)
  show wpAny _ _ (field (.ref z) 3 >>= _) _ _ _; refine wpAny_bind (wpAny_field zz rfl (x := .ref TI) rfl ?_)
  refine wpAny_bind (wpAny_seqItems zTI rfl ?_)
  show wpAny _ _ (Builtin.SmallTypes.ownedTupleIsFree (.ref z) >>= _) _ _ _; refine wpAny_bind (wpAny_tupleHeld_zip zz aT fun g0 z0 b0 => ?_)
  simp only [Bool.false_eq_true, if_false]; refine wpAny_bind ?_; rw [← Array.forIn_toList]; simp only [List.forIn_cons, List.forIn_nil]
  replace b0 : Heap.SameBut z hp g0 := b0
  refine wpAny_bind (wpAny_bind (wpAny_holding ?_)); show wpAny _ _ (Builtin.SmallTypes.nextOf (.ref i1) >>= _) _ _ ⟨g0, g, d, tk0, os⟩
  refine wpAny_bind (D1.item i _ _ _ lt1 (D1.over st1 b0 S.zf1) fun x g1 tk1 px q1 b1 => wpAny_pure (wpAny_pure ?_))
  replace b1 : Heap.SameBut i1 g0 g1 := b1
  refine wpAny_bind (wpAny_bind (wpAny_holding ?_)); show wpAny _ _ (Builtin.SmallTypes.nextOf (.ref i2) >>= _) _ _ ⟨g1, g, d, tk1, os⟩
  refine wpAny_bind (D2.item i _ _ _ lt2 (D2.over (D2.over st2 b0 S.zf2) b1 S.sep1_2) fun y g2 tk2 py q2 b2 => wpAny_pure (wpAny_pure (wpAny_pure ?_)))
  replace b2 : Heap.SameBut i2 g1 g2 := b2
  show wpAny _ _ (newTuple [x, y] >>= _) _ _ ⟨g2, g, d, tk2, os⟩; refine wpAny_bind (wpAny_newTuple ?_)
  have sz : g2.objs.size = hp.objs.size := by rw [b2.1, b1.1, b0.1]
  have zk : IsZipHeld g2 z TI TO T true := b2.extBut _ _ S.zi2 (b1.extBut _ _ S.zi1 z0)
  have kk : ∀ c o, c ≠ z → c ≠ i1 → c ≠ i2 → hp.get? c = some o → g2.get? c = some o := fun c o c1 c2 c3 e => b2.extBut _ _ c3 (b1.extBut _ _ c2 (b0.extBut _ _ c1 e))
  refine wpAny_pure ⟨_, rfl, ?_⟩
  show Q (.ref g2.objs.size) ⟨g2.push { cls := .type "tuple", data := .seq #[x, y] }, g, d, tk2, os⟩
  have tp : IsPair (g2.push { cls := .type "tuple", data := .seq #[x, y] }) g2.objs.size x y := Heap.get?_push_size _ rfl
  have s1 : (g2.push { cls := .type "tuple", data := .seq #[x, y] }).objs.size = g2.objs.size + 1 := Heap.size_push ..
  rw [sz] at tp s1 ⊢
  have pu : ∀ c o, g2.get? c = some o → (g2.push { cls := .type "tuple", data := .seq #[x, y] }).get? c = some o := fun c o e => Heap.get?_push_of_some _ e
  exact fin x y _ tk2 px py (pu _ _ zk) (D1.frame _ _ _ (D1.over q1 b2 S.sep2_1) fun b _ o e => pu b o e) (D2.frame _ _ _ q2 fun b _ o e => pu b o e) tp s1 fun c o c1 c2 c3 e => pu _ _ (kk c o c1 c2 c3 e)
theorem zh_end {Q : Fin → Shared → Prop} (S : ZipSep2 z TI TO i1 i2 fp1 fp2) (D1 : Draws prog w A i1 fp1 n1 P1 St1) (D2 : Draws prog w A i2 fp2 n2 P2 St2) (zz : IsZipHeld s.heap z TI TO T f) (aT : s.heap.get? T = some oT) (zTI : IsPair s.heap TI (.ref i1) (.ref i2))
    (st1 : St1 i s.heap) (st2 : St2 i s.heap) (le1 : i ≤ n1) (le2 : i ≤ n2) (hend : i = n1 ∨ i = n2)
    (fin : ∀ h' tk e, (∀ c o, c ≠ z → c ≠ i1 → c ≠ i2 → s.heap.get? c = some o → h'.get? c = some o) → (∃ o, h'.get? e = some o ∧ o.cls = .type "StopIteration") → E (.ref e) { s with heap := h', toks := tk }) :
    wpAny (model prog w) A (Builtin.«zip.__next__» ⟨[.ref z], []⟩) Q E s := by
  obtain ⟨hp, g, d, tk0, os⟩ := s
  show wpAny _ _ (field (.ref z) 2 >>= _) _ _ _; refine wpAny_bind (wpAny_field zz rfl (x := .bool false) rfl ?_)
  show wpAny _ _ (field (.ref z) 3 >>= _) _ _ _; refine wpAny_bind (wpAny_field zz rfl (x := .ref TI) rfl ?_)
  refine wpAny_bind (wpAny_seqItems zTI rfl ?_)
  show wpAny _ _ (Builtin.SmallTypes.ownedTupleIsFree (.ref z) >>= _) _ _ _; refine wpAny_bind (wpAny_tupleHeld_zip zz aT fun g0 z0 b0 => ?_)
  simp only [Bool.false_eq_true, if_false]; refine wpAny_bind ?_; rw [← Array.forIn_toList]; simp only [List.forIn_cons, List.forIn_nil]
  replace b0 : Heap.SameBut z hp g0 := b0
  refine wpAny_bind (wpAny_bind (wpAny_holding ?_)); show wpAny _ _ (Builtin.SmallTypes.nextOf (.ref i1) >>= _) _ _ ⟨g0, g, d, tk0, os⟩
  by_cases lt1 : i < n1
  · refine wpAny_bind (D1.item i _ _ _ lt1 (D1.over st1 b0 S.zf1) fun x g1 tk1 px q1 b1 => wpAny_pure (wpAny_pure ?_))
    replace b1 : Heap.SameBut i1 g0 g1 := b1
    have e2 : i = n2 := by omega
    refine wpAny_bind (wpAny_bind (wpAny_holding ?_)); show wpAny _ _ (Builtin.SmallTypes.nextOf (.ref i2) >>= _) _ _ ⟨g1, g, d, tk1, os⟩
    refine wpAny_bind (D2.done ⟨g1, g, d, tk1, os⟩ _ _ (by rw [← e2]; exact D2.over (D2.over st2 b0 S.zf2) b1 S.sep1_2) fun q e hq he => ?_)
    replace hq : Heap.ExtBut i2 g1 q := hq
    exact fin q tk1 e (fun c o c1 c2 c3 x => hq _ _ c3 (b1.extBut _ _ c2 (b0.extBut _ _ c1 x))) he
  · have e1 : i = n1 := by omega
    refine wpAny_bind (D1.done ⟨g0, g, d, tk0, os⟩ _ _ (by rw [← e1]; exact D1.over st1 b0 S.zf1) fun q e hq he => ?_)
    replace hq : Heap.ExtBut i1 g0 q := hq
    exact fin q tk0 e (fun c o c1 c2 c3 x => hq _ _ c2 (b0.extBut _ _ c1 x)) he
theorem zh_nextItem {Q : Option Value → Shared → Prop} (S : ZipSep2 z TI TO i1 i2 fp1 fp2) (D1 : Draws prog w A.in1 i1 fp1 n1 P1 St1) (D2 : Draws prog w A.in1 i2 fp2 n2 P2 St2) (zz : IsZipHeld s.heap z TI TO T f) (aT : s.heap.get? T = some oT) (zTI : IsPair s.heap TI (.ref i1) (.ref i2))
    (st1 : St1 i s.heap) (st2 : St2 i s.heap) (lt1 : i < n1) (lt2 : i < n2)
    (fin : ∀ x y h' tk, P1 i x → P2 i y → IsZipHeld h' z TI TO T true → St1 (i + 1) h' → St2 (i + 1) h' → IsPair h' s.heap.objs.size x y → h'.objs.size = s.heap.objs.size + 1 → (∀ c o, c ≠ z → c ≠ i1 → c ≠ i2 → s.heap.get? c = some o → h'.get? c = some o) → Q (some (.ref s.heap.objs.size)) { s with heap := h', toks := tk }) :
    wpAny (model prog w) A (pyNext (.ref z)) Q E s := by
  have ty : s.TypeIs (.ref z) "zip" := ⟨_, zz, rfl⟩
  unfold pyNext
  exact wpAny_bind (wpAny_attempt (wpAny_callSpecial?_slot (name := Str.ofString "__next__") ty F.slot_zip_next (wpAny_call_entry F.slot_zip_next ty F.entry_zip_next (zh_item S D1 D2 zz aT zTI st1 st2 lt1 lt2 fun x y h' tk a1 a2 a3 a4 a5 a6 a7 a8 => wpAny_pure (fin x y h' tk a1 a2 a3 a4 a5 a6 a7 a8)) (F.args_zip_next_1 _))))
theorem zh_nextEnd {Q : Option Value → Shared → Prop} (S : ZipSep2 z TI TO i1 i2 fp1 fp2) (D1 : Draws prog w A.in1 i1 fp1 n1 P1 St1) (D2 : Draws prog w A.in1 i2 fp2 n2 P2 St2) (zz : IsZipHeld s.heap z TI TO T f) (aT : s.heap.get? T = some oT) (zTI : IsPair s.heap TI (.ref i1) (.ref i2))
    (st1 : St1 i s.heap) (st2 : St2 i s.heap) (le1 : i ≤ n1) (le2 : i ≤ n2) (hend : i = n1 ∨ i = n2)
    (fin : ∀ h' tk, (∀ c o, c ≠ z → c ≠ i1 → c ≠ i2 → s.heap.get? c = some o → h'.get? c = some o) → Q none { s with heap := h', toks := tk }) : wpAny (model prog w) A (pyNext (.ref z)) Q E s := by
  have ty : s.TypeIs (.ref z) "zip" := ⟨_, zz, rfl⟩
  unfold pyNext
  refine wpAny_bind (wpAny_attempt (wpAny_callSpecial?_slot (name := Str.ofString "__next__") ty F.slot_zip_next (wpAny_call_entry F.slot_zip_next ty F.entry_zip_next (zh_end S D1 D2 zz aT zTI st1 st2 le1 le2 hend fun h' tk e hk he => ?_) (F.args_zip_next_1 _))))
  obtain ⟨o, ho, hc⟩ := he
  exact wpAny_bind (wpAny_isInstance (T := "StopIteration") (b := true) ⟨o, ho, hc⟩ isSubtype_stop (wpAny_pure (fin _ _ hk)))
end

/-! ## what is drawn of a zip into a list -/
/-- between two draws -/
structure ZSt (z TI TO i1 i2 a c S : Addr) (kx ky : Bool) (xs ys : Array Value) (i : Nat) (h : Heap) : Prop where
  ti : IsPair h TI (.ref i1) (.ref i2)
  to : ∃ x y, IsPair h TO x y
  k1 : KIter kx h i1 a i ∧ KIs kx h a xs
  k2 : KIter ky h i2 c i ∧ KIs ky h c ys
  zs : IsZip h z TI TO .none ∨ ∃ T f oT, IsZipHeld h z TI TO T f ∧ h.get? T = some oT ∧ S < T
theorem ZSt.keep {z TI TO i1 i2 a c S : Addr} {kx ky : Bool} {xs ys : Array Value} {i : Nat} {h h' : Heap} (st : ZSt z TI TO i1 i2 a c S kx ky xs ys i h) (k : ∀ b o, b ≠ S → h.get? b = some o → h'.get? b = some o) (hz : z < S) (hTI : TI < S) (hTO : TO < S) (h1 : i1 < S) (h2 : i2 < S) (ha : a < S) (hc : c < S) :
    ZSt z TI TO i1 i2 a c S kx ky xs ys i h' := by
  have up : ∀ b, b < S → ∀ o, h.get? b = some o → h'.get? b = some o := fun b hb o e => k b o (Nat.ne_of_lt hb) e
  have kis : ∀ (q : Bool) (l : Addr) (its : Array Value), l < S → KIs q h l its → KIs q h' l its := fun q l its hl x => by
    cases q with
    | true => exact Heap.IsList.at (show h.IsList l its from x) fun o e => up l hl o e
    | false => exact Heap.IsTuple.at (show h.IsTuple l its from x) fun o e => up l hl o e
  obtain ⟨x, y, t⟩ := st.to
  refine ⟨up TI hTI _ st.ti, ⟨x, y, up TO hTO _ t⟩, ⟨st.k1.1.at_ fun o e => up i1 h1 o e, kis _ _ _ ha st.k1.2⟩, ⟨st.k2.1.at_ fun o e => up i2 h2 o e, kis _ _ _ hc st.k2.2⟩, ?_⟩
  rcases st.zs with q | ⟨T, f, oT, q1, q2, q3⟩
  · exact .inl (up z hz _ q)
  · exact .inr ⟨T, f, oT, up z hz _ q1, k T oT (Nat.ne_of_gt q3) q2, q3⟩
theorem sep_of {z TI TO i1 i2 a c : Addr} (D : ZipApart z TI TO i1 i2 a c) : ZipSep2 z TI TO i1 i2 [i1, a] [i2, c] :=
  { TIz := D.TIz, TOz := D.TOz, TITO := D.TITO, TIi1 := D.TIi1, mem1 := List.mem_cons_self, TIi2 := D.TIi2, mem2 := List.mem_cons_self
    zf1 := by simp; exact ⟨D.i1z.symm, D.l1z.symm⟩, Tf1 := by simp; exact ⟨D.TOi1, D.l1TO.symm⟩
    zf2 := by simp; exact ⟨D.i2z.symm, D.l2z.symm⟩, Tf2 := by simp; exact ⟨D.TOi2, D.l2TO.symm⟩
    sep1_2 := by simp; exact ⟨D.i12, D.l2i1.symm⟩, sep2_1 := by simp; exact ⟨D.i12.symm, D.l1i2.symm⟩ }
section
variable {prog : Program} {w : World} {A : Around} {E : Value → Shared → Prop} {s : Shared} {z TI TO i1 i2 a c S : Addr} {kx ky : Bool} {xs ys : Array Value} {i : Nat}
theorem zst_item {Q : Option Value → Shared → Prop} (hh : A.handled = none) (D : ZipApart z TI TO i1 i2 a c) (st : ZSt z TI TO i1 i2 a c S kx ky xs ys i s.heap) (lt1 : i < xs.size) (lt2 : i < ys.size) (hS : S < s.heap.objs.size) (lt : z < S ∧ TI < S ∧ TO < S ∧ i1 < S ∧ i2 < S ∧ a < S ∧ c < S)
    (fin : ∀ x y h' tk, xs[i]? = some x → ys[i]? = some y → ZSt z TI TO i1 i2 a c S kx ky xs ys (i + 1) h' → IsPair h' s.heap.objs.size x y → h'.objs.size = s.heap.objs.size + 1 → (∀ b o, S ≤ b → s.heap.get? b = some o → h'.get? b = some o) → (∀ b o, b ≠ z → b ≠ TO → b ≠ i1 → b ≠ i2 → s.heap.get? b = some o → h'.get? b = some o) → Q (some (.ref s.heap.objs.size)) { s with heap := h', toks := tk }) :
    wpAny (model prog w) A (pyNext (.ref z)) Q E s := by
  have d1 := drawsK kx (prog := prog) (w := w) (A := A.in1) hh i1 a D.l1i1 xs
  have d2 := drawsK ky (prog := prog) (w := w) (A := A.in1) hh i2 c D.l2i2 ys
  obtain ⟨l1, l2, l3, l4, l5, l6, l7⟩ := lt
  have apart : ∀ b, S ≤ b → b ≠ z ∧ b ≠ TO ∧ b ≠ i1 ∧ b ≠ i2 := fun b hb => ⟨Nat.ne_of_gt (Nat.lt_of_lt_of_le l1 hb), Nat.ne_of_gt (Nat.lt_of_lt_of_le l3 hb), Nat.ne_of_gt (Nat.lt_of_lt_of_le l4 hb), Nat.ne_of_gt (Nat.lt_of_lt_of_le l5 hb)⟩
  obtain ⟨tx, ty, hto⟩ := st.to
  rcases st.zs with q | ⟨T, f, oT, q1, q2, q3⟩
  · refine wpAny_pyNext_zipD2_item (sep_of D) d1 d2 q st.ti hto st.k1 st.k2 lt1 lt2 fun x y h' tk e1 e2 z' TO' s1 s2 hT hsz hk => ?_
    refine fin x y h' tk e1 e2 ⟨?_, ⟨x, y, TO'⟩, s1, s2, .inr ⟨s.heap.objs.size, false, _, z', hT, hS⟩⟩ hT hsz (fun b o hb e => hk b o (apart b hb).1 (apart b hb).2.1 (apart b hb).2.2.1 (apart b hb).2.2.2 e) hk
    exact hk _ _ D.TIz D.TITO D.TIi1 D.TIi2 st.ti
  · refine zh_nextItem (sep_of D) d1 d2 q1 q2 st.ti st.k1 st.k2 lt1 lt2 fun x y h' tk e1 e2 z' s1 s2 hT hsz hk => ?_
    refine fin x y h' tk e1 e2 ⟨hk _ _ D.TIz D.TIi1 D.TIi2 st.ti, ⟨tx, ty, hk _ _ D.TOz D.TOi1 D.TOi2 hto⟩, s1, s2, .inr ⟨T, true, oT, z', ?_, q3⟩⟩ hT hsz (fun b o hb e => hk b o (apart b hb).1 (apart b hb).2.2.1 (apart b hb).2.2.2 e) (fun b o b1 _ b3 b4 e => hk b o b1 b3 b4 e)
    have := apart T (Nat.le_of_lt q3)
    exact hk T oT this.1 this.2.2.1 this.2.2.2 q2
theorem zst_end {Q : Option Value → Shared → Prop} (hh : A.handled = none) (D : ZipApart z TI TO i1 i2 a c) (st : ZSt z TI TO i1 i2 a c S kx ky xs ys i s.heap) (le1 : i ≤ xs.size) (le2 : i ≤ ys.size) (hend : i = xs.size ∨ i = ys.size) (lt : z < S ∧ TI < S ∧ TO < S ∧ i1 < S ∧ i2 < S ∧ a < S ∧ c < S)
    (fin : ∀ h' tk, (∀ b o, S ≤ b → s.heap.get? b = some o → h'.get? b = some o) → (∀ b o, b ≠ z → b ≠ TO → b ≠ i1 → b ≠ i2 → s.heap.get? b = some o → h'.get? b = some o) → Q none { s with heap := h', toks := tk }) :
    wpAny (model prog w) A (pyNext (.ref z)) Q E s := by
  have d1 := drawsK kx (prog := prog) (w := w) (A := A.in1) hh i1 a D.l1i1 xs
  have d2 := drawsK ky (prog := prog) (w := w) (A := A.in1) hh i2 c D.l2i2 ys
  obtain ⟨l1, l2, l3, l4, l5, l6, l7⟩ := lt
  have apart : ∀ b, S ≤ b → b ≠ z ∧ b ≠ TO ∧ b ≠ i1 ∧ b ≠ i2 := fun b hb => ⟨Nat.ne_of_gt (Nat.lt_of_lt_of_le l1 hb), Nat.ne_of_gt (Nat.lt_of_lt_of_le l3 hb), Nat.ne_of_gt (Nat.lt_of_lt_of_le l4 hb), Nat.ne_of_gt (Nat.lt_of_lt_of_le l5 hb)⟩
  obtain ⟨tx, ty, hto⟩ := st.to
  rcases st.zs with q | ⟨T, f, oT, q1, q2, q3⟩
  · exact wpAny_pyNext_zipD2_end (sep_of D) d1 d2 q st.ti hto st.k1 st.k2 le1 le2 hend fun h' tk hk => fin h' tk (fun b o hb e => hk b o (apart b hb).1 (apart b hb).2.1 (apart b hb).2.2.1 (apart b hb).2.2.2 e) hk
  · exact zh_nextEnd (sep_of D) d1 d2 q1 q2 st.ti st.k1 st.k2 le1 le2 hend fun h' tk hk => fin h' tk (fun b o hb e => hk b o (apart b hb).1 (apart b hb).2.2.1 (apart b hb).2.2.2 e) fun b o b1 _ b3 b4 e => hk b o b1 b3 b4 e
end
/-- the pairs that came -/
structure Prs (xs ys : Array Value) (S : Addr) (h : Heap) (as : List Addr) : Prop where
  rise : as.Pairwise (· < ·)
  above : ∀ p ∈ as, S < p
  at_ : ∀ (j : Nat) (p : Addr), as[j]? = some p → ∃ x y, xs[j]? = some x ∧ ys[j]? = some y ∧ IsPair h p x y
theorem Prs.keep {xs ys : Array Value} {S : Addr} {h h' : Heap} {as : List Addr} (q : Prs xs ys S h as) (k : ∀ b o, S < b → h.get? b = some o → h'.get? b = some o) : Prs xs ys S h' as :=
  ⟨q.rise, q.above, fun j p e => let ⟨x, y, e1, e2, e3⟩ := q.at_ j p e; ⟨x, y, e1, e2, k p _ (q.above p (List.mem_of_getElem? e)) e3⟩⟩
section
variable {prog : Program} {w : World} {A : Around} {s : Shared} {R : Result → Shared → Prop} {z TI TO i1 i2 a c S : Addr} {kx ky : Bool} {xs ys : Array Value}
theorem zl_loop (hh : A.handled = none) (D : ZipApart z TI TO i1 i2 a c) (hn : min xs.size ys.size ≤ sizeLine) (lt : z < S ∧ TI < S ∧ TO < S ∧ i1 < S ∧ i2 < S ∧ a < S ∧ c < S) (res : Value) {h₁ : Heap}
    (fin : ∀ h' tk acc cc as, (∀ b o, b ≠ S → b ≠ z → b ≠ TO → b ≠ i1 → b ≠ i2 → h₁.get? b = some o → h'.get? b = some o) → h'.get? S = some { cls := .type "list", dict := none, data := .seq acc cc, slots := #[] } → as.length = min xs.size ys.size → Prs xs ys S h' as → acc.toList = as.map Value.ref → R (.ok (.ret res)) { s with heap := h', toks := tk }) :
    ∀ (k i : Nat) (h : Heap) (tk cc : Nat) (acc : Array Value) (as : List Addr), min xs.size ys.size - i = k → i ≤ min xs.size ys.size → ZSt z TI TO i1 i2 a c S kx ky xs ys i h → (∀ b o, b ≠ S → b ≠ z → b ≠ TO → b ≠ i1 → b ≠ i2 → h₁.get? b = some o → h.get? b = some o) →
      h.get? S = some { cls := .type "list", dict := none, data := .seq acc cc, slots := #[] } → acc.toList = as.map Value.ref → as.length = i → Prs xs ys S h as → codeAny (model prog w) A (.builtin "list.extend.loop" ⟨[.ref S, .ref z, res], []⟩) R { s with heap := h, toks := tk } := by
  intro k
  obtain ⟨l1, l2, l3, l4, l5, l6, l7⟩ := id lt
  induction k with
  | zero =>
    intro i h tk cc acc as hk hi st kp hS ha hl hP
    refine codeAny_builtin PySem.F.entry_extend_loop ?_; rw [Around.under_plainId PySem.F.plain_extend_loop _]
    show wpAny _ A.in1 (pyNext (.ref z) >>= _) _ _ _
    refine wpAny_bind (zst_end (s := { s with heap := h, toks := tk }) (A := A.in1) hh D st (by omega) (by omega) (by omega) lt fun h' tk' k1 k2 => ?_)
    exact wpAny_pure (fin h' tk' acc cc as (fun b o b0 b1 b2 b3 b4 e => k2 b o b1 b2 b3 b4 (kp b o b0 b1 b2 b3 b4 e)) (k1 S _ (Nat.le_refl _) hS) (by omega) (hP.keep fun b o hb e => k1 b o (Nat.le_of_lt hb) e) ha)
  | succ k ih =>
    intro i h tk cc acc as hk hi st kp hS ha hl hP
    have hsz : acc.size = i := by rw [← Array.length_toList, ha, List.length_map, hl]
    have hSl : S < h.objs.size := Heap.lt_size hS
    refine codeAny_builtin PySem.F.entry_extend_loop ?_; rw [Around.under_plainId PySem.F.plain_extend_loop _]
    show wpAny _ A.in1 (pyNext (.ref z) >>= _) _ _ _
    refine wpAny_bind (zst_item (s := { s with heap := h, toks := tk }) (A := A.in1) hh D st (by omega) (by omega) hSl lt fun x y h' tk' ex ey st' hT hz' k1 k2 => ?_)
    dsimp only at hT hz' k1 k2 ⊢
    have hS' := k1 S _ (Nat.le_refl _) hS
    have up : ∀ b o, b ≠ S → h'.get? b = some o → (h'.update S (Obj.mapSeq (·.push (Value.ref h.objs.size)))).get? b = some o := fun b o hb e => (Heap.get?_update_other _ _ (Ne.symm hb)).trans e
    have st2 := st'.keep up l1 l2 l3 l4 l5 l6 l7
    show wpAny _ A.in1 (updateSeq S (·.push (Value.ref h.objs.size)) >>= _) _ _ _
    refine wpAny_bind (wpAny_updateSeq hS' rfl (wpAny_pure ⟨plainId_quiet PySem.F.plain_extend_loop _, ih (i + 1) _ tk' _ (acc.push (Value.ref h.objs.size)) (as ++ [h.objs.size]) (by omega) (by omega) st2 (fun b o b0 b1 b2 b3 b4 e => up b o b0 (k2 b o b1 b2 b3 b4 (kp b o b0 b1 b2 b3 b4 e))) (Heap.get?_update_self _ hS' rfl)
      (by rw [Array.toList_push, ha, List.map_append]; rfl) (by rw [List.length_append, hl]; rfl) ⟨?_, ?_, ?_⟩⟩) (by rw [hsz]; omega) (by show (acc.push (Value.ref h.objs.size)).size ≤ sizeLine + 1; rw [Array.size_push, hsz]; omega))
    · refine List.pairwise_append.mpr ⟨hP.rise, List.pairwise_singleton _ _, fun p hp q hq => ?_⟩
      rw [List.mem_singleton.mp hq]
      obtain ⟨j, hj⟩ := List.mem_iff_getElem?.mp hp
      obtain ⟨_, _, _, _, e⟩ := hP.at_ j p hj
      exact Heap.lt_size e
    · intro p hp
      rcases List.mem_append.mp hp with hp | hp
      · exact hP.above p hp
      · rw [List.mem_singleton.mp hp]; exact hSl
    · intro j p hj
      rcases Nat.lt_trichotomy j as.length with q | q | q
      · rw [List.getElem?_append_left q] at hj
        obtain ⟨x', y', e1, e2, e3⟩ := hP.at_ j p hj
        have hp := hP.above p (List.mem_of_getElem? hj)
        exact ⟨x', y', e1, e2, up p _ (Nat.ne_of_gt hp) (k1 p _ (Nat.le_of_lt hp) e3)⟩
      · subst q
        have : h.objs.size = p := by simpa using hj
        subst this
        exact ⟨x, y, by rw [hl]; exact ex, by rw [hl]; exact ey, up _ _ (Nat.ne_of_gt hSl) hT⟩
      · rw [List.getElem?_eq_none (by rw [List.length_append, List.length_singleton]; omega)] at hj
        cases hj
end
end Mn
end
section
set_option Elab.async false
set_option linter.all false
set_option maxRecDepth 100000
namespace Mn
open PySem PySem.Spec L2 PyProof.Rows
open Sem (wp)

section
variable {prog : Program} {w : World} {A : Around} {E : Value → Shared → Prop} {s : Shared} {z TI TO i1 i2 a c : Addr} {kx ky : Bool} {xs ys : Array Value}
/-- list(z), z a zip that was just made -/
theorem call_list_zip {Q : Value → Shared → Prop} (hh : A.handled = none) (D : ZipApart z TI TO i1 i2 a c) (hn : min xs.size ys.size ≤ sizeLine) (lt : z < s.heap.objs.size ∧ TI < s.heap.objs.size ∧ TO < s.heap.objs.size ∧ i1 < s.heap.objs.size ∧ i2 < s.heap.objs.size ∧ a < s.heap.objs.size ∧ c < s.heap.objs.size)
    (st : ZSt z TI TO i1 i2 a c s.heap.objs.size kx ky xs ys 0 s.heap) (hz : IsZip s.heap z TI TO .none)
    (fin : ∀ h' tk acc cc as, (∀ b o, b ≠ z → b ≠ TO → b ≠ i1 → b ≠ i2 → s.heap.get? b = some o → h'.get? b = some o) → h'.get? s.heap.objs.size = some { cls := .type "list", dict := none, data := .seq acc cc, slots := #[] } → as.length = min xs.size ys.size → Prs xs ys s.heap.objs.size h' as → acc.toList = as.map Value.ref →
      Q (.ref s.heap.objs.size) { s with heap := h', toks := tk }) : wpAny (model prog w) A (call (.type "list") [.ref z]) Q E s := by
  obtain ⟨l1, l2, l3, l4, l5, l6, l7⟩ := id lt
  refine callType_codes (Q₁ := fun obj s₁ => obj = .ref s.heap.objs.size ∧ s₁ = { s with heap := s.heap.push { cls := .type "list", data := .seq #[] } }) F.called_list (F.typeCall_list_1 _) F.entry_list_init (code_list_new _ ⟨rfl, rfl⟩) fun obj s₁ q => ?_
  obtain ⟨rfl, rfl⟩ := q
  have o1 : (s.heap.push { cls := .type "list", data := .seq #[] }).get? s.heap.objs.size = some { cls := .type "list", data := .seq #[] } := Heap.get?_push_size _ rfl
  refine ⟨⟨_, o1, rfl⟩, F.args_list_init_2 _ _, ?_⟩
  show wpAny _ A.in1.in1 (do let old ← Builtin.List.listItems (.ref s.heap.objs.size); Builtin.List.listUpdate (.ref s.heap.objs.size) (fun _ => #[]); letGo old.toList.reverse; Builtin.List.listExtendWith (.ref s.heap.objs.size) (.ref z) .none) _ _ _
  refine wpAny_bind ?_; unfold Builtin.List.listItems
  refine wpAny_bind (wpAny_seqItems o1 rfl (wpAny_pure ?_))
  show wpAny _ A.in1.in1 (updateSeq s.heap.objs.size (fun _ => #[]) >>= fun _ => letGo (#[] : Array Value).toList.reverse >>= fun _ => Builtin.List.listExtendWith (.ref s.heap.objs.size) (.ref z) .none) _ _ _
  refine wpAny_bind (wpAny_updateSeq o1 rfl ?_)
  have o2 := Heap.get?_update_self (Obj.mapSeq (fun _ => (#[] : Array Value))) o1 rfl
  refine wpAny_bind (wpAny_letGo ?_); unfold Builtin.List.listExtendWith
  have up : ∀ (h : Heap) (f : Obj → Obj), (∀ b o, s.heap.get? b = some o → h.get? b = some o) → ∀ b o, s.heap.get? b = some o → (h.update s.heap.objs.size f).get? b = some o := fun h f q b o e => (Heap.get?_update_other _ _ (Ne.symm (Nat.ne_of_lt (Heap.lt_size e)))).trans (q b o e)
  have k1 : ∀ b o, s.heap.get? b = some o → (s.heap.push { cls := .type "list", data := .seq #[] }).get? b = some o := fun b o e => Heap.get?_push_of_some _ e
  have k2 := up _ (Obj.mapSeq (fun _ => (#[] : Array Value))) k1
  have ty : ∀ {h : Heap}, (∀ b o, s.heap.get? b = some o → h.get? b = some o) → ∃ o, h.get? z = some o ∧ o.cls = .type "zip" := fun {h} q => ⟨_, q z _ hz, rfl⟩
  refine wpAny_bind (wpAny_typeOf (T := "zip") (s := { s with heap := _ }) (ty k2) ?_)
  have n1 : Builtin.List.listSameRef (.ref s.heap.objs.size) (.ref z) = false := by simp [Builtin.List.listSameRef, Nat.ne_of_gt l1]
  have n2 : (Value.type "zip" == Value.type "list") = false := by decide
  have n3 : (Value.type "zip" == Value.type "tuple") = false := by decide
  simp only [n1, n2, n3, Bool.or_false, Bool.false_eq_true, if_false]
  refine wpAny_bind (wpAny_pyIter_zip (s := { s with heap := _ }) (k2 z _ hz) (wpAny_bind (wpAny_holding ?_)))
  unfold Builtin.List.listLengthHint
  refine wpAny_bind (wpAny_specialOf (T := "zip") (s := { s with heap := _ }) (ty k2) zip_nolen ?_)
  show wpAny _ A.in1.in1 (specialOf (Value.ref z) (Str.ofString "__length_hint__") >>= _) _ _ _
  refine wpAny_bind (wpAny_specialOf (T := "zip") (s := { s with heap := _ }) (ty k2) zip_nohint (wpAny_pure ?_))
  show wpAny _ A.in1.in1 (rule "list.extend.makes-room" >>= fun _ => Builtin.List.listTouch (.ref s.heap.objs.size) >>= fun _ => again (.builtin "list.extend.loop" ⟨[.ref s.heap.objs.size, .ref z, .none], []⟩)) _ _ _
  refine wpAny_bind (wpAny_rule (wpAny_bind ?_))
  show wpAny _ A.in1.in1 (updateSeq s.heap.objs.size (·.push .none) >>= fun _ => updateSeq s.heap.objs.size (·.pop)) _ _ _
  refine wpAny_bind (wpAny_updateSeq o2 rfl ?_)
  have o3 := Heap.get?_update_self (Obj.mapSeq (·.push Value.none)) o2 rfl
  refine wpAny_updateSeq (hz := by seq_fits) o3 rfl ?_
  have o4 := Heap.get?_update_self (Obj.mapSeq (·.pop)) o3 rfl
  have k4 := up _ (Obj.mapSeq (·.pop)) (up _ (Obj.mapSeq (·.push Value.none)) k2)
  refine wpAny_pure ⟨plainId_quiet F.plain_extend_loop _, ?_⟩
  refine zl_loop (A := A.in1) (h₁ := s.heap) (xs := xs) (ys := ys) hh D hn lt .none (fun h' tk acc cc as kp hS hl hP ha => ⟨rfl, fin h' tk acc cc as (fun b o b1 b2 b3 b4 e => kp b o (Nat.ne_of_lt (Heap.lt_size e)) b1 b2 b3 b4 e) hS hl hP ha⟩)
    _ 0 _ _ _ #[] [] rfl (Nat.zero_le _) (st.keep (fun b o _ e => k4 b o e) l1 l2 l3 l4 l5 l6 l7) (fun b o _ _ _ _ _ e => k4 b o e) o4 rfl rfl ⟨List.Pairwise.nil, (fun _ hp => nomatch hp), fun j p e => by simp at e⟩
end
/-! ## over the hand layer -/
def zipH : Hp → List (Addr × V × V) → Hp
  | H, [] => H
  | H, (p, x, y) :: r => zipH (upd H p (.tup [x, y])) r
def zFresh : Hp → List (Addr × V × V) → Prop
  | _, [] => True
  | H, (p, x, y) :: r => H p = none ∧ zFresh (upd H p (.tup [x, y])) r
def rZipL (K : PySem.W.Frag) : List V → Hp → VK → Prop := fun vs H Q => ∃ kx ky a c xs ys, vs = [.ref a, .ref c] ∧ SqK kx K H a xs ∧ SqK ky K H c ys ∧ min xs.length ys.length ≤ sizeLine ∧
  ∀ (as : List Addr) (S : Addr), as.length = min xs.length ys.length → zFresh H (as.zip (xs.zip ys)) → zipH H (as.zip (xs.zip ys)) S = none → Q (.ref S) (upd (zipH H (as.zip (xs.zip ys))) S (.lst (as.map V.ref)))
theorem take_zip {X : Cx} {pins : List (Addr × Obj)} {σ : L2.St} {H0 : Hp} {s : Shared} {h' : Heap} {tk : Nat} (I0 : L2.Inv X pins σ H0 s) : ∀ (L : List (Addr × V × V)) (H : Hp), L2.Inv X pins σ H { s with heap := h', toks := tk } → (L.map (·.1)).Nodup →
    (∀ q ∈ L, s.heap.objs.size ≤ q.1 ∧ H q.1 = none ∧ ∀ H2, ObjOk X.prog X.w H2 h' q.1 (.tup [q.2.1, q.2.2])) → L2.Inv X pins σ (zipH H L) { s with heap := h', toks := tk } ∧ zFresh H L ∧ ∀ b, (∀ q ∈ L, q.1 ≠ b) → zipH H L b = H b
  | [], H, I, _, _ => ⟨I, True.intro, fun _ _ => rfl⟩
  | (p, x, y) :: L, H, I, hn, h => by
    obtain ⟨hb, hno, ok⟩ := h (p, x, y) List.mem_cons_self
    have I2 : L2.Inv X pins σ (upd H p (.tup [x, y])) { s with heap := h', toks := tk } := I.take (h' := h') (t' := tk) (fun b ob _ e => e) (I0.fpOk hb hno) (ok _)
    rw [List.map_cons, List.nodup_cons] at hn
    obtain ⟨I3, f3, g3⟩ := take_zip I0 L (upd H p (.tup [x, y])) I2 hn.2 fun q hq => by
      obtain ⟨c1, c2, c3⟩ := h q (List.mem_cons_of_mem _ hq)
      have ne : q.1 ≠ p := fun z => hn.1 (by show p ∈ _; rw [← z]; exact List.mem_map_of_mem hq)
      exact ⟨c1, by rw [upd_ne ne]; exact c2, c3⟩
    exact ⟨I3, ⟨hno, f3⟩, fun b hq => by
      show zipH (upd H p (.tup [x, y])) L b = H b
      rw [g3 b fun q m => hq q (List.mem_cons_of_mem _ m), upd_ne (hq (p, x, y) List.mem_cons_self).symm]⟩
theorem zip3_get {α β γ : Type} : ∀ {as : List α} {xs : List β} {ys : List γ} {q : α × β × γ}, q ∈ as.zip (xs.zip ys) → ∃ j : Nat, as[j]? = some q.1 ∧ xs[j]? = some q.2.1 ∧ ys[j]? = some q.2.2 := by
  intro as xs ys q h
  obtain ⟨j, hj⟩ := List.mem_iff_getElem?.mp h
  rw [List.getElem?_zip_eq_some] at hj
  obtain ⟨h1, h2⟩ := hj
  rw [List.getElem?_zip_eq_some] at h2
  exact ⟨j, h1, h2.1, h2.2⟩
theorem map_zip3 {α β γ : Type} : ∀ {as : List α} {xs : List β} {ys : List γ}, as.length = min xs.length ys.length → (as.zip (xs.zip ys)).map (·.1) = as := by
  intro as xs ys h
  exact List.map_fst_zip (by rw [List.length_zip]; omega)
theorem pe_listZip {X : Cx} {e e2 : Expr} {ta : TA} {p p2 pos pos2 : Pos} (hc : X.calm = true) (hg : Gl X "zip") (hm : X.mg "zip" = none) (hg2 : Gl X "list") (hm2 : X.mg "list" = none) (ha : PA X [e, e2] ta) (hs : starEach [e, e2] X.env = (false, eval e X.env) :: starEach [e2] X.env) (hpl : (backTo pos2 (starEach [e2] X.env)).any (·.1) = false) :
    PE X (.Call (.Name "list" p) [.Call (.Name "zip" p2) [e, e2] [] pos2] [] pos) (tCB (rZipL X.K) ta) := by
  refine ⟨fun pins s σ H Q I h => ?_⟩
  refine wpAny_Call_Name_kw (ld_blt I hg2 hm2 PyProof.Rows.boot_list ?_ (by decide) (by decide))
  refine PyProof.Rows.callWith_type1 ?_ (starEach_cons rfl) rfl
  rw [starEach_cons (es := []) (show notStar (.Call (.Name "zip" p2) [e, e2] [] pos2) = true from rfl)]
  show wpAny _ _ (spliced ((false, eval (.Call (.Name "zip" p2) [e, e2] [] pos2) X.env) :: backTo pos (starEach [] X.env))) _ _ s
  refine Calls.spliced_cons ?_
  refine wpAny_Call_Name_kw (ld_blt I hg hm PyProof.Rows.boot_zip ?_ (by decide) (by decide))
  refine PyProof.Rows.callWith_type1 (thn (ha.run pos2 pins s σ H _ I h) fun us s1 ⟨vs, H1, I1, r1, q1⟩ => ?_) hs hpl
  obtain ⟨kx, ky, a, c, xs, ys, ex, hqx, hqy, hz0, q⟩ := q1
  subst ex
  cases r1 with
  | cons r rr =>
    cases rr with
    | cons r' rr =>
      cases rr
      cases r
      cases r'
      obtain ⟨its, rv, p1, la⟩ := hqx.is I1
      obtain ⟨its2, rv2, q2, lc⟩ := hqy.is I1
      have len1 := rv.length
      have len2 := rv2.length
      refine zip_begins2 (beginsK kx a its.toArray) (beginsK ky c its2.toArray) p1 q2 fun h' zz zTI zTO g1 g2 hsz hk => ?_
      show wpAny _ _ (spliced []) _ _ _
      refine Calls.spliced_nil ?_
      have D := PySem.W.ktu_apart s1.heap.objs.size a c la lc
      have sz0 : s1.heap.objs.size + 5 = h'.objs.size := hsz.symm
      have ltz : ∀ j, j < 5 → s1.heap.objs.size + j < h'.objs.size := fun j hj => by rw [← sz0]; exact Nat.add_lt_add_left hj _
      have lt' : ∀ b, b < s1.heap.objs.size → b < h'.objs.size := fun b hb => by rw [← sz0]; exact Nat.lt_of_lt_of_le hb (Nat.le_add_right _ _)
      have kis : ∀ (q : Bool) (l : Addr) (t : Array Value), KIs q s1.heap l t → KIs q h' l t := fun q l t x => by
        cases q with
        | true => exact Heap.IsList.at (show s1.heap.IsList l t from x) fun o e => hk l o e
        | false => exact Heap.IsTuple.at (show s1.heap.IsTuple l t from x) fun o e => hk l o e
      refine call_list_zip (s := { s1 with heap := h' }) (z := s1.heap.objs.size + 4) (TI := s1.heap.objs.size + 2) (TO := s1.heap.objs.size + 3) (i1 := s1.heap.objs.size) (i2 := s1.heap.objs.size + 1) (kx := kx) (ky := ky) (xs := its.toArray) (ys := its2.toArray) (I1.ok.hd hc) D (by simpa [← len1, ← len2] using hz0)
        ⟨ltz 4 (by omega), ltz 2 (by omega), ltz 3 (by omega), ltz 0 (by omega), ltz 1 (by omega), lt' _ la, lt' _ lc⟩ ⟨zTI, ⟨_, _, zTO⟩, ⟨iter0 kx g1, kis _ _ _ p1⟩, ⟨iter0 ky g2, kis _ _ _ q2⟩, .inl zz⟩ zz fun h2 tk acc cc as kp hS hl hP hacc => ?_
      dsimp only at kp hS hP
      have old : ∀ b o, s1.heap.get? b = some o → h2.get? b = some o := fun b o eb => by
        have lb : b < s1.heap.objs.size := Heap.lt_size eb
        have ne : ∀ j, b ≠ s1.heap.objs.size + j := fun j => Nat.ne_of_lt (Nat.lt_of_lt_of_le lb (Nat.le_add_right _ _))
        exact kp b o (ne 4) (ne 3) (Nat.ne_of_lt lb) (ne 1) (hk b o eb)
      have hl' : as.length = min xs.length ys.length := by rw [hl, len1, len2]; simp
      have I2 : L2.Inv X pins σ H1 { s1 with heap := h2, toks := tk } := I1.kept (t' := tk) old
      have big : ∀ p ∈ as, s1.heap.objs.size ≤ p := fun p hp => Nat.le_of_lt (Nat.lt_of_le_of_lt (by rw [← sz0]; exact Nat.le_add_right _ _) (hP.above p hp))
      obtain ⟨I3, f3, g3⟩ := take_zip (h' := h2) (tk := tk) I1 (as.zip (xs.zip ys)) H1 I2 (by rw [map_zip3 hl']; exact hP.rise.imp fun h => Nat.ne_of_lt h) fun q hq => by
        obtain ⟨j, j1, j2, j3⟩ := zip3_get hq
        obtain ⟨x, y, x1, y1, tp⟩ := hP.at_ j _ j1
        obtain ⟨u, u1, ru⟩ := rv.get j2
        obtain ⟨v, v1, rv'⟩ := rv2.get j3
        have ex : x = u := by have x1' : its[j]? = some x := by simpa using x1
                              rw [u1] at x1'; exact (Option.some.inj x1').symm
        have ey : y = v := by have y1' : its2[j]? = some y := by simpa using y1
                              rw [v1] at y1'; exact (Option.some.inj y1').symm
        subst ex ey
        have hb := big q.1 (List.mem_of_getElem? j1)
        exact ⟨hb, I1.hok.fresh hb, fun H2 => ⟨by show 2 ≤ sizeLine; decide, [x, y], .cons ru (.cons rv' .nil), ⟨_, tp, rfl, _, rfl⟩⟩⟩
      have hSn : zipH H1 (as.zip (xs.zip ys)) h'.objs.size = none := by
        rw [g3 _ fun q hq z => ?_]
        · exact I1.hok.fresh (by rw [← sz0]; exact Nat.le_add_right _ _)
        · obtain ⟨j, j1, _⟩ := zip3_get hq
          have := hP.above q.1 (List.mem_of_getElem? j1)
          rw [z] at this
          exact Nat.lt_irrefl _ this
      have vas : ∀ l : List Addr, Vals (l.map V.ref) (l.map Value.ref) := fun l => by
        induction l with
        | nil => exact .nil
        | cons x l ih => exact .cons rfl ih
      have I4 : L2.Inv X pins σ (upd (zipH H1 (as.zip (xs.zip ys))) h'.objs.size (.lst (as.map V.ref))) { s1 with heap := h2, toks := tk } := I3.take (h' := h2) (t' := tk) (fun b ob _ e => e) (I1.fpOk (by rw [← sz0]; exact Nat.le_add_right _ _) hSn) (show ObjOk X.prog X.w _ h2 _ (.lst (as.map V.ref)) from
        ⟨by rw [List.length_map, hl']; exact hz0, acc.toList, cc, by rw [hacc]; exact vas as, by simpa using hS⟩)
      exact ⟨.ref h'.objs.size, _, I4, rfl, q as _ hl' f3 hSn⟩

section
variable {T : Tt} {k : Nat} {N : List Str} {sc : Scope}
def zipT (xs ys : List PV) : List PV := List.zipWith (fun x y => .tup [x, y]) xs ys
theorem zip_nxt {B : List Nat} {b : Nat} {ρ Z : List Addr} {h : AH} : ∀ {as : List Addr} {xs ys : List PV} {vs ws : List V} {H : Hp}, Good T.cA T.K B b ρ Z h H → repL T.cA T.K ρ Z H xs vs → repL T.cA T.K ρ Z H ys ws → as.length = min vs.length ws.length → zFresh H (as.zip (vs.zip ws)) →
    Nxt T.cA T.K B b ρ Z H ρ h (zipH H (as.zip (vs.zip ws))) ∧ repL T.cA T.K ρ Z (zipH H (as.zip (vs.zip ws))) (zipT xs ys) (as.map V.ref)
  | [], xs, ys, vs, ws, H, G, rx, ry, hl, _ => by
    have e : zipT xs ys = [] := by
      have l1 := rx.length
      have l2 := ry.length
      simp only [List.length_nil] at hl
      unfold zipT
      rw [← l1, ← l2] at hl
      cases xs with
      | nil => rfl
      | cons x xs =>
        cases ys with
        | nil => rfl
        | cons y ys => simp at hl
    rw [e]
    exact ⟨G.nxt, .nil⟩
  | p :: as, [], ys, vs, ws, H, G, rx, ry, hl, _ => by unfold repL at rx; subst rx; simp at hl
  | p :: as, x :: xs, [], vs, ws, H, G, rx, ry, hl, _ => by unfold repL at ry; subst ry; simp at hl
  | p :: as, x :: xs, y :: ys, vs, ws, H, G, rx, ry, hl, hf => by
    unfold repL at rx ry
    obtain ⟨v, vs', rfl, rx1, rx2⟩ := rx
    obtain ⟨w, ws', rfl, ry1, ry2⟩ := ry
    obtain ⟨hp, hf'⟩ := (show H p = none ∧ zFresh (upd H p (.tup [v, w])) (as.zip (vs'.zip ws')) from hf)
    obtain ⟨n, rt⟩ := pair_new G hp rx1 ry1
    have hl' : as.length = min vs'.length ws'.length := by simp only [List.length_cons] at hl; omega
    obtain ⟨n2, r2⟩ := zip_nxt n.good (n.repL G rx2) (n.repL G ry2) hl' hf'
    exact ⟨n.trans n2, repL_cons.mpr ⟨n2.rep n.good rt, r2⟩⟩
def fZipL (m : Bool) : List PV → Nat → AH → R PV := fun xs _ h => match xs with
  | [x, y] => (match seqOf h x, seqOf h y with
    | some xs, some ys => mkL m (zipT xs ys) h
    | _, _ => .bad)
  | _ => .bad
theorem ol_zipL {m : Bool} : OpL T (rZipL T.K) (fZipL m) := by
  intro B b ρ Z h H vs ws Q G rs q
  unfold fZipL at q
  split at q
  · rename_i x y
    obtain ⟨w, u, rfl, rx, ry⟩ := Op1' rs
    split at q
    · rename_i xs ys e1 e2
      obtain ⟨a, us, rfl, h1, z1, r1⟩ := seqOf_rep G rx e1
      obtain ⟨c, us2, rfl, h2, z2, r2⟩ := seqOf_rep G ry e2
      have kd : ∀ {a : Addr} {us : List V}, (H a = some (.lst us) ∨ SqT T.K H a us) → ∃ ky, SqK ky T.K H a us := fun h => by
        rcases h with h | h
        · exact ⟨true, .inl (.inl h)⟩
        · exact ⟨false, h⟩
      obtain ⟨kx, q1⟩ := kd h1
      obtain ⟨ky, q2⟩ := kd h2
      have l1 := r1.length
      have l2 := r2.length
      refine ⟨kx, ky, a, c, us, us2, rfl, q1, q2, by omega, fun as S hl hf hS => ?_⟩
      obtain ⟨n, rz⟩ := zip_nxt G r1 r2 hl hf
      refine mkL_ok ?_ n.good hS rz (q.shift n)
      show (List.zipWith _ xs ys).length ≤ sizeLine
      rw [List.length_zipWith]
      omega
    · exact q.elim
  · exact q.elim
theorem se_listZip {m : Bool} {x y : Str} {e e2 : Expr} {ds : Dn (List PV)} {p p2 pos pos2 : Pos} (hx : x = "list") (hy : y = "zip") (hg : glB sc x = true) (hm : T.mg x = none) (hg2 : glB sc y = true) (hm2 : T.mg y = none) (ha : SA T k N sc [e, e2] ds) (ns : notStar e = true) (ns2 : notStar e2 = true) :
    SE T k N sc (.Call (.Name x p) [.Call (.Name y p2) [e, e2] [] pos2] [] pos) (dOpL (fZipL m) ds) := fun X W c tk => by
  subst hx hy
  refine PEimp (pe_listZip c.calm (c.gl _ hg2) (by rw [c.hmg]; exact hm2) (c.gl _ hg) (by rw [c.hmg]; exact hm) (ha X W c tk) (starEach_cons ns) (backTo_plain (by simp [ns2]))) fun σ H Q ⟨B, b, ρ, Z, h, env, G, er, q⟩ => ⟨B, b, ρ, Z, h, env, G, er, postA.go .post q fun ρ1 H1 vs ws h1 n rs q => ?_⟩
  rw [c.hK]
  exact ol_zipL B b ρ1 Z h1 H1 vs ws Q n.good rs ((q.shift n).to0)
end
end Mn
end
section
set_option Elab.async false
set_option linter.all false
set_option maxRecDepth 100000
namespace Mn
open PySem PySem.Spec L2

/-! ## C(..) -/
section
variable {X : Cx} {CX : CXT} {k : Nat} {f C : Addr} {fd : FuncData} {ps : List Str} {sp : Sp} {dvs : List V} {ds : List Value} {E : L2.St → XK}
theorem run_mk {pins : List (Addr × Obj)} {σ : L2.St} {H : Hp} {s : Shared} {Q : VK} {us : List Value} {vs : List V} (M : L2.Mk X.K C f) (F : FnOk X.prog X.w X.K X.mg X.base CX k f fd ps sp) (hr : Room (k + 1) X.A) (hb : Binds X.K fd ps ds) (hd : Vals dvs ds) (hx : PassesAt CX X σ (E σ))
    (I : L2.Inv X pins σ H s) (r : Vals vs us) (h : ∀ x dx, H x = none → H dx = none → dx ≠ x → sp (.ref x :: (vs ++ dvs)) (upd (upd H dx (.own x)) x (.ins C dx [])) (fun v H2 => v = .non ∧ Q (.ref x) H2) (E σ)) :
    wpAny (model X.prog X.w) X.A (call (.ref C) us) (EP X pins σ Q) X.xe s := by
  have q0 := h (s.heap.objs.size + 1) s.heap.objs.size (I.hok.fresh (Nat.le_succ _)) (I.hok.fresh (Nat.le_refl _)) (Nat.ne_of_lt (Nat.lt_succ_self _))
  have J := Inv.made (C := C) I
  have rr : Vals (V.ref (s.heap.objs.size + 1) :: (vs ++ dvs)) (Value.ref (s.heap.objs.size + 1) :: (us ++ ds)) := .cons rfl (r.append hd)
  have ll : (Value.ref (s.heap.objs.size + 1) :: us ++ ds).length = ps.length := by
    have e := rr.length
    rw [F.len _ _ _ _ q0] at e
    exact e.symm
  refine wpAny_call (make_map (f := f) I.kIn M.makes M.init (beq_iff_eq.mp M.fn) (codeAny_mono (F.run _ X.stack _ _ ⟨Value.ref (s.heap.objs.size + 1) :: us, []⟩ (Value.ref (s.heap.objs.size + 1) :: (us ++ ds)) _ _ (E σ) (hr.make C us []) (J.env0.make C us []) (hb _ (Value.ref (s.heap.objs.size + 1) :: us) J.kIn ll) rr q0) fun r s' q1 => ?_))
  cases r with
  | error e => exact hx pins _ _ e s' J q1
  | ok fl =>
    cases fl with
    | ret u =>
      obtain ⟨v, H', I3, rv, ev, q3⟩ := J.after q1
      subst ev
      exact ⟨rv, ⟨V.ref (s.heap.objs.size + 1), H', I3, rfl, q3⟩⟩
    | next => exact False.elim q1
    | brk => exact False.elim q1
    | cont => exact False.elim q1
end
section
variable {T : Tt} {k : Nat} {N : List Str} {sc : Scope}
/-- C(..), the new instance to be written on -/
def dMake (c : Str) (fn : Fn) (np : Nat) (dfl : List PV) (ds : Dn (List PV)) : Dn PV := fun env b h => (ds env b h).bind fun xs h1 => if (xs.length + dfl.length + 1) = np then (match fn (.ref h1.length :: (xs ++ dfl)) b (h1 ++ [.ins c [] []]) with
  | .ok .non h2 => .ok (.ref h1.length) h2
  | .exc fr c as h2 => .exc fr c as h2
  | _ => .bad) else .bad
theorem mk_sp {B : List Nat} {b : Nat} {ρ Z : List Addr} {h : AH} {H : Hp} {W : WX} {σ : L2.St} {Q : VK} {np : Nat} {fn : Fn} {c : Str} {xs : List PV} {vs : List V} {x dx : Addr} (G : Good T.cA T.K B b ρ Z h H) (rs : repL T.cA T.K ρ Z H xs vs) (hl : xs.length + 1 = np) (hx : H x = none) (hdx : H dx = none) (hne : dx ≠ x)
    (p : post T B b ρ Z H W σ (match fn (.ref h.length :: xs) b (h ++ [.ins c [] []]) with
      | .ok .non h2 => .ok (.ref h.length) h2
      | .exc fr c as h2 => .exc fr c as h2
      | _ => .bad) Q) : spF T np fn (.ref x :: vs) (upd (upd H dx (.own x)) x (.ins (T.cA c) dx [])) (fun v H2 => v = .non ∧ Q (.ref x) H2) (WE W σ) := by
  have n1 := G.new (o := .own x) hdx
  have hx1 : upd H dx (.own x) x = none := by rw [upd_ne hne.symm]; exact hx
  have n2 := n1.good.push (o := .ins (T.cA c) dx []) (ao := .ins c [] []) hx1 ⟨dx, [], upd_same, rfl, .nil⟩
  have n := n1.trans n2
  refine ⟨by rw [List.length_cons, ← rs.length]; exact hl, B, b, ρ ++ [x], Z, h ++ [.ins c [] []], .ref h.length :: xs, n.good, repL_cons.mpr ⟨?_, n.repL G rs⟩, ?_⟩
  · unfold rep
    exact ⟨x, rfl, by rw [← G.len]; simp⟩
  · revert p
    cases fn (.ref h.length :: xs) b (h ++ [.ins c [] []]) with
    | bad => exact fun p => p
    | exc fr c' as h2 => exact fun p => ⟨p.1, fun ρ' H' cls d n3 ex => p.2 ρ' H' cls d (n.trans n3) ex⟩
    | ok v h2 =>
      intro p
      cases v with
      | non =>
        intro ρ' H' w n3 rw'
        refine ⟨by unfold rep at rw'; exact rw', p ρ' H' (.ref x) (n.trans n3) ?_⟩
        unfold rep
        obtain ⟨m, em, _⟩ := n3.step.pre
        refine ⟨x, rfl, ?_⟩
        rw [em, List.getElem?_append_left (by rw [List.length_append]; simp [G.len])]
        rw [← G.len]
        simp
      | _ => exact p.elim
theorem se_make {x c : Str} {f : Addr} {np k0 : Nat} {fn : Fn} {dfl : List PV} {e : Expr} {es : List Expr} {ds : Dn (List PV)} {p pos : Pos} (M : L2.Mk T.K (T.cA c) f) (F : FnF T k0 f np fn dfl) (hk : Nat.blt k0 k = true) (hg : glB sc x = true) (hm : T.mg x = some (.ref (T.cA c))) (hdb : (x == ("__debug__" : Str)) = false)
    (ha : SA T k N sc (e :: es) ds) (ns : notStar e = true) (nss : es.all notStar = true) : SE T k N sc (.Call (.Name x p) (e :: es) [] pos) (dMake c fn np dfl ds) := fun X W cx tk => by
  obtain ⟨k', fd, ps, dsv, dvs, hk', hps, GF, hb, hd, rd, kp⟩ := F.ex
  have G' : FnOk X.prog X.w X.K X.mg X.base (CXT' T) k' f fd ps (spF T np fn) := by rw [cx.hP, cx.hw, cx.hK, cx.hmg, cx.hb]; exact GF
  have M' : L2.Mk X.K (T.cA c) f := by rw [cx.hK]; exact M
  have hk2 : k' + 1 ≤ k := by have := (Nat.blt_eq).mp hk; omega
  refine ⟨fun pins s σ H Q I ⟨B, b, ρ, Z, h, env, G, er, q0⟩ => ?_⟩
  refine wpAny_Call_Name_kw (ld_glob I (cx.gl x hg) (by rw [cx.hmg]; exact hm) ?_ hdb)
  refine PySem.W.callWith_K (h₀ := X.base) I.ok.mod.kin M'.kp (thn ((ha X W cx tk).run pos pins s σ H (fun ws H2 => ∃ ρ1 xs h1, Nxt T.cA T.K B b ρ Z H ρ1 h1 H2 ∧ repL T.cA T.K ρ1 Z H2 xs ws ∧ post T B b ρ Z H W σ _ Q) I
    ⟨B, b, ρ, Z, h, env, G, er, postA.go .post q0 fun ρ1 H1 xs ws h1 n rs q => ⟨ρ1, xs, h1, n, rs, q⟩⟩) fun us s1 ⟨ws, H1, I1, r, ρ1, xs, h1, n, rs, q⟩ => ⟨I1.kIn, ?_⟩) (starEach_cons ns) (backTo_plain nss)
  split at q
  · rename_i hl
    have rl := rs.append (rd ρ1 Z H1)
    exact run_mk (E := fun σ => WE W σ) M' G' (cx.room.mono hk2) (by rw [cx.hK]; exact hb) hd (passT cx tk σ) I1 r fun x' dx hx hdx hne => mk_sp n.good rl (by rw [List.length_append]; exact hl) hx hdx hne (q.shift n)
  · exact q.elim
/-! ## what is never reached -/
def dBad : Ds := fun _ _ _ => .bad
theorem ss_never {s : Stmt} : SS T k N sc s dBad := fun X W c tk => PSimp ps_never fun D σ H ⟨B, b, ρ, Z, h, env, G, er, p⟩ => p.elim
end
end Mn
end
section
set_option Elab.async false
set_option linter.all false
set_option maxRecDepth 100000
namespace Mn
open PySem PySem.Spec L2

/-! ## [k for k in o.f if o.f[k] != []] -/
section
variable {K : PySem.W.Frag} {H H' : Hp} {d : Addr} {kvs : List (Key × V)}
theorem sqL_keep (hk : ∀ a o, a ≠ d → H a = some o → H' a = some o) (hd : H d = some (.dK kvs)) {a : Addr} {xs : List V} (h : SqL K H a xs) : SqL K H' a xs := by
  rcases h with (h | ⟨o, h⟩) | h
  · exact .inl (.inl (hk a _ (fun z => by rw [z, hd] at h; cases h) h))
  · exact .inl (.inr ⟨o, hk a _ (fun z => by rw [z, hd] at h; cases h) h⟩)
  · exact .inr h
theorem sqT_keep (hk : ∀ a o, a ≠ d → H a = some o → H' a = some o) (hd : H d = some (.dK kvs)) {a : Addr} {xs : List V} (h : SqT K H a xs) : SqT K H' a xs := by
  rcases h with (h | ⟨o, h⟩) | h
  · exact .inl (.inl (hk a _ (fun z => by rw [z, hd] at h; cases h) h))
  · exact .inl (.inr ⟨o, hk a _ (fun z => by rw [z, hd] at h; cases h) h⟩)
  · exact .inr h
mutual
theorem dp_keep (hk : ∀ a o, a ≠ d → H a = some o → H' a = some o) (hd : H d = some (.dK kvs)) : ∀ (x : PyData) (v : V), Dp K H v x → Dp K H' v x
  | .none, _, h => by cases h; exact .non
  | .bool b, _, h => by cases h; exact .bl b
  | .int b, _, h => by cases h; exact .int b
  | .str b, _, h => by cases h; exact .str b
  | .list xs, _, h => by cases h with | lst h1 h2 => exact .lst (sqL_keep hk hd h1) (dps_keep hk hd xs _ h2)
  | .tuple xs, _, h => by cases h with | tup h1 h2 => exact .tup (sqT_keep hk hd h1) (dps_keep hk hd xs _ h2)
  | .dict _, _, h => by cases h
theorem dps_keep (hk : ∀ a o, a ≠ d → H a = some o → H' a = some o) (hd : H d = some (.dK kvs)) : ∀ (xs : List PyData) (vs : List V), DpAll K H vs xs → DpAll K H' vs xs
  | [], _, h => by cases h; exact .nil
  | x :: xs, _, h => by cases h with | cons h1 h2 => exact .cons (dp_keep hk hd x _ h1) (dps_keep hk hd xs _ h2)
end
end
/-- a key as a value -/
def keyP : Key → PV
  | .inl i => .int i
  | .inr s => .str s
theorem keyP_rep {T : Tt} {ρ Z : List Addr} {H : Hp} (k : Key) : rep T.cA T.K ρ Z H (keyP k) (kV k) := by
  cases k with
  | inl i => exact rep_int
  | inr s => exact rep_str
/-- the keys whose values are not the empty list -/
def fullKeys (h : AH) (get : Key → Option PV) : List Key → Option (List PV)
  | [] => some []
  | k :: ks => ((get k).bind fun v => datOf h v).bind fun d => (fullKeys h get ks).map fun r => if d.eq (.lst []) = true then r else keyP k :: r
def dKeys (i0 i1 : Nat) (f : Str) (ok : Str → Bool) : Dn PV := fun env b h => if Nat.blt i1 env.length = true then (match env[i0]? with
  | some (some x) => (match clsOf h x with
    | some (c, fs, vs) => if ok c = true then (match fldAt fs vs f with
      | some y => (match dicOf h y with
        | some (ks, xs) => if szOk ks.length = true then (match fullKeys h (dGetP ks xs) ks with
          | some r => .ok (.lst r) h
          | none => .bad) else .bad
        | none => .bad)
      | none => .bad) else .bad
    | none => .bad)
  | _ => .bad) else .bad
section
variable {T : Tt} {k : Nat} {N : List Str} {sc : Scope}
theorem full_at {h : AH} {get : Key → Option PV} : ∀ {ks : List Key} {r : List PV}, fullKeys h get ks = some r → ∀ (i : Nat) k, ks[i]? = some k → ∃ x d, get k = some x ∧ datOf h x = some d
  | [], _, _ => fun i k e => by simp at e
  | k :: ks, r, e => by
    simp only [fullKeys] at e
    obtain ⟨d, e1, e2⟩ := Option.bind_eq_some_iff.mp e
    obtain ⟨x, e0, e1⟩ := Option.bind_eq_some_iff.mp e1
    obtain ⟨r', e3, _⟩ := Option.map_eq_some_iff.mp e2
    intro i k' e
    cases i with
    | zero => simp at e; subst e; exact ⟨x, d, e0, e1⟩
    | succ i => exact full_at e3 i k' (by simpa using e)
/-- what is kept of the first i -/
def fullPre (h : AH) (get : Key → Option PV) (ks : List Key) (i : Nat) : List Key := (ks.take i).filter fun k => match (get k).bind fun v => datOf h v with
  | some d => !d.eq (.lst [])
  | none => false
theorem fullPre_all {h : AH} {get : Key → Option PV} : ∀ {ks : List Key} {r : List PV}, fullKeys h get ks = some r → (fullPre h get ks ks.length).map keyP = r
  | [], _, e => by simp [fullKeys] at e; subst e; rfl
  | k :: ks, r, e => by
    simp only [fullKeys] at e
    obtain ⟨d, e1, e2⟩ := Option.bind_eq_some_iff.mp e
    obtain ⟨r', e3, rfl⟩ := Option.map_eq_some_iff.mp e2
    have ih := fullPre_all e3
    unfold fullPre at ih ⊢
    rw [List.take_length] at ih ⊢
    simp only [List.filter_cons, e1]
    by_cases q : d.eq (.lst []) = true
    · simp [q, ih]
    · simp [q, ih]
theorem fullPre_succ {h : AH} {get : Key → Option PV} {ks : List Key} {i : Nat} {k : Key} {x d : PV} (hk : ks[i]? = some k) (hx : get k = some x) (hd : datOf h x = some d) : fullPre h get ks (i + 1) = fullPre h get ks i ++ (if d.eq (.lst []) = true then [] else [k]) := by
  unfold fullPre
  rw [List.take_succ, hk, List.filter_append]
  by_cases q : d.eq (.lst []) = true
  · simp [hx, hd, q]
  · simp [hx, hd, q]
theorem keys_len {h : AH} {get : Key → Option PV} {ks : List Key} (i : Nat) : (fullPre h get ks i).length ≤ i := by
  unfold fullPre
  exact Nat.le_trans (List.length_filter_le _ _) (by rw [List.length_take]; omega)
theorem keys_rep {ρ Z : List Addr} {H : Hp} : ∀ ks : List Key, repL T.cA T.K ρ Z H (ks.map keyP) (ks.map kV)
  | [] => .nil
  | k :: ks => repL_cons.mpr ⟨keyP_rep k, keys_rep ks⟩
theorem Good.ext {cA : Str → Addr} {K : PySem.W.Frag} {B : List Nat} {b : Nat} {ρ Z : List Addr} {h : AH} {H H' : Hp} (G : Good cA K B b ρ Z h H) (kp : ∀ a o, H a = some o → H' a = some o) : Nxt cA K B b ρ Z H ρ h H' := by
  have th : ∀ a, H a ≠ none → H' a ≠ none := fun a hn z => by
    cases e : H a with
    | none => exact hn e
    | some o => rw [kp a o e] at z; cases z
  have s : Step ρ Z H ρ H' := ⟨⟨[], by simp, by simp⟩, fun a o e _ => kp a o e, th⟩
  refine ⟨⟨G.len, G.nd, fun n a ao e1 e2 => ?_, G.base, G.bs, G.cl, G.dis, fun a ha => th a (G.zt a ha)⟩, s⟩
  have ob := G.obj n a ao e1 e2
  refine objR_step s G.written ?_ ob
  cases e : H a with
  | none => exact absurd e (G.there (List.mem_of_getElem? e1))
  | some o => exact kp a o e
theorem se_keys {self kd f : Str} {i0 i1 : Nat} {ok : Str → Bool} {scope : Scope} {p1 p2 p3 p4 p5 p6 p7 p8 p9 p10 pos : Pos} (F : FldOk T f ok) (h0 : N[i0]? = some self) (h1 : N[i1]? = some kd) (hne : (i0 == i1) = false) (v0 : visB sc self = true) (v1 : visB scope self = true) (v2 : visB scope kd = true) (lk : locB scope kd = true)
    (hb : blkC N sc scope [(kd, i1)] = true) (d1 : (self == ("__debug__" : Str)) = false) (d2 : (self == ("__classdict__" : Str)) = false) (d3 : (kd == ("__debug__" : Str)) = false) (d4 : (kd == ("__classdict__" : Str)) = false) :
    SE T k N sc (.ListComp (.Name kd p1) [⟨.Name kd p2, .Attribute (.Name self p3) f p4, [.Compare (.Subscript (.Attribute (.Name self p5) f p6) (.Name kd p7) p8) [.NotEq] [.List [] p9] p10], 0⟩] scope pos) (dKeys i0 i1 f ok) := fun X W cx tk => by
  have hu := cx.un
  have fld : ∀ (X' : Cx) (q1 q2 : Pos), CxOk T k N scope X' → PE X' (.Attribute (.Name self q1) f q2) (tFld T.K (tVar i0) f) := fun X' q1 q2 c' => by rw [← c'.hK]; exact pe_fld (pe_var (by rw [c'.hN]; exact h0) (c'.vis self v1) d1 d2) (attBase rfl)
  refine PEimp (pe_lock (pe_lc (own := [(kd, i1)]) cx.calm (by rw [cx.hN]; exact cx.nd) (pi_keys (pe_fld (pe_var (i := i0) (by rw [cx.hN]; exact h0) (cx.vis self v0) d1 d2) (attBase rfl))) (blk_of cx hb)
    (fun s H C cl fp => have c' := cx_blk cx hb s H C cl fp; pg_name (i := i1) (by rw [c'.hN]; exact c'.nd) (by rw [c'.hN]; exact h1) (c'.loc kd lk).1 (c'.loc kd lk).2)
    (fun s H C cl fp => have c' := cx_blk cx hb s H C cl fp; pts_one (pt_cmpR (show OpR _ _ (rNeP T.K) from by rw [← c'.hK]; exact op_neP c'.un) (pe_dget (by have := c'.un; omega) (fld _ p5 p6 c') (pe_var (i := i1) (by rw [c'.hN]; exact h1) (c'.vis kd v2) d3 d4) (fun _ _ => rfl)) (pe_lst pa_nil) (nomark _)))
    (fun s H C cl fp => have c' := cx_blk cx hb s H C cl fp; pe_var (i := i1) (by rw [c'.hN]; exact h1) (c'.vis kd v2) d3 d4) (fold_no rfl))) fun σ H Q ⟨B, b, ρ, Z, h, env, G, er, p⟩ => ?_
  unfold dKeys at p
  split at p
  case isFalse => exact p.elim
  rename_i hlt
  have li1 : i1 < σ.length := by rw [← er.1]; exact (Nat.blt_eq).mp hlt
  split at p
  · rename_i x ex
    split at p
    · rename_i c fs vs ec
      split at p
      · rename_i hok
        split at p
        · rename_i y ey
          split at p
          · rename_i ks xs ed
            split at p
            · rename_i hz
              split at p
              · rename_i r er'
                obtain ⟨w, ew, rw1⟩ := er.2 i0 x ex
                obtain ⟨a, dx, ws, rfl, ha, hl, rl⟩ := clsOf_rep G rw1 ec
                obtain ⟨yv, eyv, ry⟩ := fldAt_rep rl ey
                obtain ⟨dd, zs, rfl, hd, hlk, rz⟩ := dicOf_rep G ry ed
                have hne' : i1 ≠ i0 := fun z => by subst z; simp at hne
                have had : a ≠ dd := fun z => by rw [z, hd] at ha; cases ha
                refine ⟨dd, .dK (ks.zip zs), hd, True.intro, fun od => ?_⟩
                rw [cx.hK]
                refine ⟨.ref a, ew, a, T.cA c, dx, fs.zip ws, .ref dd, rfl, by rw [upd_ne had]; exact ha, (F c hok).1, (F c hok).2, eyv, dd, od, rfl, .inl ⟨ks.zip zs, upd_same, fun D hD => ?_⟩⟩
                have hDd : D ≠ dd := fun z => by rw [z, upd_same] at hD; cases hD
                have hDn : H D = none := by rw [upd_ne hDd] at hD; exact hD
                have atx := full_at er'
                have lenz : (ks.zip zs).length = ks.length := by rw [List.length_zip, ← hlk, Nat.min_self]
                refine lc_it (walk_keys (d := dd) (o := od) (kvs := ks.zip zs)) (fun i H' => (∀ a o, a ≠ dd → H a = some o → H' a = some o) ∧ H' dd = some (.frz od (.dK (ks.zip zs))) ∧ H' D = some (.lst ((fullPre h (dGetP ks xs) ks i).map kV))) ?_ ?_ ?_ ?_
                · refine ⟨fun a o hne e => ?_, ?_, by rw [upd_same]; rfl⟩
                  · rw [upd_ne (ne_of_none e hDn), upd_ne hne]; exact e
                  · rw [upd_ne hDd.symm]; exact upd_same
                · exact fun i H' _ P => P.2.1
                · rintro i x' H1 H2 hi ⟨k1, k2, k3⟩ ⟨rfl, kk, vv, ekv, rfl⟩
                  obtain ⟨ek, ez⟩ := List.getElem?_zip_eq_some.mp ekv
                  obtain ⟨xe, de, exe, ede⟩ := atx i kk ek
                  obtain ⟨vz, evz, rvz⟩ := dGetP_some rz exe
                  obtain ⟨dp, pl, dpt⟩ := datOf_rep G rvz ede
                  have s0 : ((wipe σ [i1]).set i1 (some (kV kk)))[i0]? = σ[i0]? := by simp [wipe, List.getElem?_set_ne hne']
                  have s1 : ((wipe σ [i1]).set i1 (some (kV kk)))[i1]? = some (some (kV kk)) := by simp [wipe, li1]
                  refine ⟨by simp [wipe], .ref a, s0.trans ew, a, T.cA c, dx, fs.zip ws, .ref dd, rfl, k1 a _ had ha, (F c hok).1, (F c hok).2, eyv, kV kk, s1, dd, vz, rfl, .inl ⟨ks.zip zs, kk, .inr ⟨od, k2⟩, rfl, evz.symm⟩, Nat.zero_le _, fun q hq => ?_⟩
                  have k1' : ∀ a o, a ≠ dd → H a = some o → upd H2 q (.lst []) a = some o := fun a' o hne e => by
                    rw [upd_ne (ne_of_none (k1 a' o hne e) hq)]
                    exact k1 a' o hne e
                  have k2' : upd H2 q (.lst []) dd = some (.frz od (.dK (ks.zip zs))) := by rw [upd_ne (ne_of_none k2 hq)]; exact k2
                  have k3' : upd H2 q (.lst []) D = some (.lst ((fullPre h (dGetP ks xs) ks i).map kV)) := by rw [upd_ne (ne_of_none k3 hq)]; exact k3
                  have fs' := fullPre_succ ek exe ede
                  refine ⟨de.toD, .list [], dp_keep (d := dd) k1' hd _ _ dp, .lst (.inl (.inl upd_same)) .nil, pl, rfl, dpt, _, rfl, ?_⟩
                  have hq2 : PyData.eqv de.toD (.list []) = de.eq (.lst []) := by unfold PV.eq; simp [PV.toD, PV.toDs]
                  rw [hq2]
                  show (if (!de.eq (PV.lst [])) = true then _ else _ : Prop)
                  by_cases qe : de.eq (.lst []) = true
                  · rw [if_neg (by simp [qe])]
                    rw [if_pos qe, List.append_nil] at fs'
                    exact ⟨k1', k2', by rw [fs']; exact k3'⟩
                  · rw [if_pos (by simpa using qe)]
                    rw [if_neg qe] at fs'
                    refine ⟨kV kk, s1, _, k3', ?_, fun a' o hne e => ?_, ?_, ?_⟩
                    · rw [List.length_map]
                      have := keys_len (h := h) (get := dGetP ks xs) (ks := ks) i
                      have hz' := szOk_iff.mp hz
                      rw [lenz] at hi
                      omega
                    · rw [upd_ne (fun z => by rw [z, hDn] at e; cases e)]; exact k1' a' o hne e
                    · rw [upd_ne hDd.symm]; exact k2'
                    · rw [upd_same, fs', List.map_append]; rfl
                · rintro H' ⟨k1, k2, k3⟩
                  rw [lenz] at k3
                  refine ⟨k2, ?_⟩
                  -- the dict free again, the list as it came
                  have e3 : upd H' dd (.dK (ks.zip zs)) D = some (.lst ((fullPre h (dGetP ks xs) ks ks.length).map kV)) := by rw [upd_ne hDd]; exact k3
                  have kp : ∀ a o, H a = some o → upd H' dd (.dK (ks.zip zs)) a = some o := fun a' o e => by
                    by_cases q : a' = dd
                    · subst q; rw [upd_same, ← hd, e]
                    · rw [upd_ne q]; exact k1 a' o q e
                  have n := G.ext kp
                  have hr := fullPre_all er'
                  refine p ρ _ (.ref D) n ?_
                  unfold rep
                  refine ⟨D, _, rfl, e3, G.still hDn, ?_, ?_⟩
                  · rw [← hr, List.length_map]
                    have := keys_len (h := h) (get := dGetP ks xs) (ks := ks) ks.length
                    have hz' := szOk_iff.mp hz
                    omega
                  · rw [← hr]; exact keys_rep _
              · exact p.elim
            · exact p.elim
          · exact p.elim
        · exact p.elim
      · exact p.elim
    · exact p.elim
  · exact p.elim
end
end Mn
end
section
set_option Elab.async false
set_option linter.all false
set_option maxRecDepth 100000
namespace Mn
open PySem PySem.Spec L2

/-! ## a def's promise as the table holds it -/
section
variable {T : Tt} {k : Nat} {N : List Str} {sc : Scope}
theorem FnF.mono {k k2 : Nat} {f : Addr} {np : Nat} {fn : Fn} {dfl : List PV} (F : FnF T k f np fn dfl) (h : k ≤ k2) : FnF T k2 f np fn dfl := by
  obtain ⟨k', fd, ps, ds, dvs, h1, r⟩ := F.ex
  exact ⟨⟨k', fd, ps, ds, dvs, Nat.le_trans h1 h, r⟩⟩
theorem MtF.mono {k k2 : Nat} {m : Str} {tab : Str → Option (Nat × Fn)} (F : MtF T k m tab) (h : k ≤ k2) : MtF T k2 m tab :=
  ⟨fun c np fn e => let ⟨f, c1, c2, c3⟩ := F.at_ c np fn e; ⟨f, c1, c2, c3.mono h⟩⟩
theorem FnF.of {k k2 : Nat} {N ps : List Str} {x qual : Str} {params : Arguments} {body : List Stmt} {scope : Scope} {dvs : List V} {kws : List (Str × V)} {f : Addr} {fd : FuncData} {d : Ds} {pop : Bool} (F : L2.FunD T.K x qual params body scope dvs kws f fd)
    (S : L2.FnScope N ps scope) (hb : L2.Binds T.K fd ps []) (s : SSs T k N scope body d) (hk : k + 1 ≤ k2) : FnF T k2 f ps.length (mkFn pop N.length d) [] :=
  ⟨⟨k + 1, fd, ps, [], [], hk, rfl, fn_ok F S s, hb, .nil, fun _ _ _ => .nil, F.kp⟩⟩
theorem FnF.of2 {k k2 : Nat} {N ps : List Str} {x qual : Str} {params : Arguments} {body : List Stmt} {scope : Scope} {kws : List (Str × V)} {f : Addr} {fd : FuncData} {d : Ds} {pop : Bool} (F : L2.FunD T.K x qual params body scope [.non] kws f fd)
    (S : L2.FnScope N ps scope) (hb : ∃ us, L2.Vals ([] : List V) us ∧ L2.Binds T.K fd ps us) (hb2 : ∃ us, L2.Vals [V.non] us ∧ L2.Binds T.K fd ps us) (s : SSs T k N scope body d) (hk : k + 1 ≤ k2) : FnF T k2 f ps.length (mkFn pop N.length d) [] ∧ FnF T k2 f ps.length (mkFn pop N.length d) [.non] :=
  ⟨let ⟨us, u, b⟩ := hb; ⟨⟨k + 1, fd, ps, us, [], hk, rfl, fn_ok F S s, b, u, fun _ _ _ => .nil, F.kp⟩⟩,
   let ⟨us, u, b⟩ := hb2; ⟨⟨k + 1, fd, ps, us, [.non], hk, rfl, fn_ok F S s, b, u, fun _ _ _ => by unfold repL; exact ⟨.non, [], rfl, rep_non, .nil⟩, F.kp⟩⟩⟩
theorem sss_bad {ss : List Stmt} : SSs T k N sc ss dBad := fun X W c tk => PSsimp (t := fun _ _ _ => False) ⟨fun pins s σ H D I q => q.elim⟩ fun D σ H ⟨B, b, ρ, Z, h, env, G, er, p⟩ => p.elim
def mt1 (C : Str) (np : Nat) (fn : Fn) : Str → Option (Nat × Fn) := fun c => if c = C then some (np, fn) else none
theorem MtF.of1 {C m : Str} {np : Nat} {f : Addr} {fn : Fn} (c : L2.Cls T.K (T.cA C)) (hm : L2.Meth T.K (T.cA C) m f) (F : FnF T k f np fn []) : MtF T k m (mt1 C np fn) :=
  ⟨fun c' np' fn' e => by
    unfold mt1 at e
    by_cases h : c' = C
    · rw [if_pos h] at e
      cases e
      exact ⟨f, by rw [h]; exact c, by rw [h]; exact hm, F⟩
    · rw [if_neg h] at e
      cases e⟩
/-! ## comparisons as tests -/
theorem tv_post {B : List Nat} {b : Nat} {ρ Z : List Addr} {H : Hp} {W : WX} {σ : L2.St} {d : Dn PV} {env : EnvP} {h : AH} {Q : Bool → Hp → Prop} (p : postT T B b ρ Z H W σ (dTv d env b h) Q) : post T B b ρ Z H W σ (d env b h) (fun x H' => ∃ t, x = .bl t ∧ Q t H') := by
  unfold dTv at p
  cases e : d env b h with
  | ok v h1 =>
    rw [e] at p
    intro ρ' H' w n r
    cases v with
    | bl t => unfold rep at r; subst r; exact ⟨t, rfl, p ρ' H' n⟩
    | _ => exact p.elim
  | exc fr c as h1 => rw [e] at p; exact p
  | bad => rw [e] at p; exact p
theorem st_cmp {op : CmpOp} {r : R2} {f : PV → PV → Nat → AH → R PV} {a e : Expr} {da de : Dn PV} {pos : Pos} (ho : ∀ X, CxOk T k N sc X → OpR X (compareOp op) r) (hf : Op2 T r f) (ha : SE T k N sc a da) (he : SE T k N sc e de) (hm : behindInMarks op e = false) :
    ST T k N sc (.Compare a [op] [e] pos) (dTv (dOp2 f da de)) := fun X W c tk =>
  PTimp (pt_cmpR (ho X c) (ha X W c tk) (he X W c tk) hm) fun σ H Q ⟨B, b, ρ, Z, h, env, G, er, p⟩ => ⟨B, b, ρ, Z, h, env, G, er, post.go .post (tv_post p) fun ρ1 H1 v w h1 n rv q => ⟨B, b, ρ1, Z, h1, env, n.good, er.step n G, post.go (CK.post.shift n) q fun ρ2 H2 v2 w2 h2 n2 rv2 q2 =>
      hf B b ρ2 Z h2 H2 v v2 w w2 _ n2.good (n2.rep n.good rv) rv2 ((q2.shift (n.trans n2)).to0)⟩⟩
theorem st_chain {op op' : CmpOp} {r r' : R2} {f f' : PV → PV → Nat → AH → R PV} {a e g : Expr} {da de dg : Dn PV} {pos : Pos} (ho : ∀ X, CxOk T k N sc X → OpR X (compareOp op) r) (ho' : ∀ X, CxOk T k N sc X → OpR X (compareOp op') r') (hf : Op2 T r f) (hf' : Op2 T r' f')
    (ha : SE T k N sc a da) (he : SE T k N sc e de) (hg : SE T k N sc g dg) (hm : lastMarks [op, op'] [e, g] = false) : ST T k N sc (.Compare a [op, op'] [e, g] pos) (dTv (dChn f f' da de dg)) := fun X W cx tk =>
  PTimp (pt_chain (ho X cx) (ho' X cx) (ha X W cx tk) (he X W cx tk) (hg X W cx tk) hm) fun σ H Q ⟨B, b, ρ, Z, h, env, G, er, p⟩ => ⟨B, b, ρ, Z, h, env, G, er, post.go .post (tv_post p) fun ρ1 H1 v w h1 n rv q => ⟨B, b, ρ1, Z, h1, env, n.good, er.step n G, post.go (CK.post.shift n) q fun ρ2 H2 v2 w2 h2 n2 rv2 q2 =>
      hf B b ρ2 Z h2 H2 v v2 w w2 _ n2.good (n2.rep n.good rv) rv2 (post0.go (C := fun r => post T B b ρ Z H W σ r _) (fun z => z) q2 fun ρ3 H3 v3 w3 h3 n3 rv3 q3 => by
        have n123 := (n.trans n2).trans n3
        split at q3
        · unfold rep at rv3
          refine ⟨true, rv3, ?_⟩
          rw [if_pos rfl]
          exact ⟨B, b, ρ3, Z, h3, env, n3.good, (er.step (n.trans n2) G).step n3 n2.good, post.go (CK.post.shift n123) q3 fun ρ4 H4 v4 w4 h4 n4 rv4 q4 =>
            hf' B b ρ4 Z h4 H4 v2 v4 w2 w4 _ n4.good (n4.rep n3.good (n3.rep n2.good rv2)) rv4 ((q4.shift (n123.trans n4)).to0)⟩
        · unfold rep at rv3
          exact ⟨false, rv3, by rw [if_neg (by simp)]; exact q3 ρ3 H3 _ n123 rep_bl⟩
        · exact q3.elim)⟩⟩
section
variable {a e g : Expr} {da de dg : Dn PV} {pos : Pos}
theorem st_eq (ha : SE T k N sc a da) (he : SE T k N sc e de) : ST T k N sc (.Compare a [.Eq] [e] pos) (dTv (dOp2 fEq da de)) := st_cmp (r := rEqP T.K) (fun X c => by rw [← c.hK]; exact op_eqP c.un) o2_eq ha he (nomark _)
theorem st_ne (ha : SE T k N sc a da) (he : SE T k N sc e de) : ST T k N sc (.Compare a [.NotEq] [e] pos) (dTv (dOp2 fNe da de)) := st_cmp (r := rNeP T.K) (fun X c => by rw [← c.hK]; exact op_neP c.un) o2_ne ha he (nomark _)
theorem st_lt (ha : SE T k N sc a da) (he : SE T k N sc e de) : ST T k N sc (.Compare a [.Lt] [e] pos) (dTv (dOp2 fLt da de)) := st_cmp (fun X c => op_lt) o2_lt ha he (nomark _)
theorem st_le (ha : SE T k N sc a da) (he : SE T k N sc e de) : ST T k N sc (.Compare a [.LtE] [e] pos) (dTv (dOp2 fLe da de)) := st_cmp (fun X c => op_le) o2_le ha he (nomark _)
theorem st_gt (ha : SE T k N sc a da) (he : SE T k N sc e de) : ST T k N sc (.Compare a [.Gt] [e] pos) (dTv (dOp2 fGt da de)) := st_cmp (fun X c => op_gt) o2_gt ha he (nomark _)
theorem st_ge (ha : SE T k N sc a da) (he : SE T k N sc e de) : ST T k N sc (.Compare a [.GtE] [e] pos) (dTv (dOp2 fGe da de)) := st_cmp (fun X c => op_ge) o2_ge ha he (nomark _)
theorem st_leLt (ha : SE T k N sc a da) (he : SE T k N sc e de) (hg : SE T k N sc g dg) (hm : lastMarks [.LtE, .Lt] [e, g] = false) : ST T k N sc (.Compare a [.LtE, .Lt] [e, g] pos) (dTv (dChn fLe fLt da de dg)) := st_chain (fun X c => op_le) (fun X c => op_lt) o2_le o2_lt ha he hg hm
theorem st_leLe (ha : SE T k N sc a da) (he : SE T k N sc e de) (hg : SE T k N sc g dg) (hm : lastMarks [.LtE, .LtE] [e, g] = false) : ST T k N sc (.Compare a [.LtE, .LtE] [e, g] pos) (dTv (dChn fLe fLe da de dg)) := st_chain (fun X c => op_le) (fun X c => op_le) o2_le o2_le ha he hg hm
theorem st_is (ha : SE T k N sc a da) (he : SE T k N sc e de) : ST T k N sc (.Compare a [.Is] [e] pos) (dTv (dOp2 fIs da de)) :=
  st_cmp (fun X c => op_isN) (by
    intro B b ρ Z h H x y v w Q G rx ry p
    unfold fIs at p
    split at p
    · unfold rep at ry
      refine ⟨ry, ?_⟩
      rw [rep_isN rx]
      exact p ρ H _ G.nxt rep_bl
    · exact p.elim) ha he (nomark _)
theorem st_isnot (ha : SE T k N sc a da) (he : SE T k N sc e de) : ST T k N sc (.Compare a [.IsNot] [e] pos) (dTv (dOp2 fIsNot da de)) :=
  st_cmp (fun X c => op_notN) (by
    intro B b ρ Z h H x y v w Q G rx ry p
    unfold fIsNot at p
    split at p
    · unfold rep at ry
      refine ⟨ry, ?_⟩
      rw [rep_isN rx]
      exact p ρ H _ G.nxt rep_bl
    · exact p.elim) ha he (nomark _)
theorem st_in (ha : SE T k N sc a da) (he : SE T k N sc e de) (hm : behindInMarks .In e = false) : ST T k N sc (.Compare a [.In] [e] pos) (dTv (dOp2 (fIn false) da de)) := st_cmp (r := rInP T.K false) (fun X c => by rw [← c.hK]; exact op_inP c.un) o2_in ha he hm
theorem st_notin (ha : SE T k N sc a da) (he : SE T k N sc e de) (hm : behindInMarks .NotIn e = false) : ST T k N sc (.Compare a [.NotIn] [e] pos) (dTv (dOp2 (fIn true) da de)) := st_cmp (r := rInP T.K true) (fun X c => by rw [← c.hK]; exact op_notInP c.un) o2_in ha he hm
end
theorem sw_cell {e : Expr} {y : Str} {py : Pos} {l : Nat} {env : Env} (hy : env.scope.names.lookup y = some .cell) : swapsWith e (some (.Name y py)) l env = pure false := by
  have ky : env.kindOf y = some .cell := hy
  cases e <;> first | rfl | (unfold swapsWith; simp [ky, show (NameKind.cell == NameKind.local) = false from rfl])
theorem ss_setC {i : Nat} {x : Str} {e : Expr} {d : Dn PV} {pos pos' : Pos} (hi : N[i]? = some x) (hl : sc.names.lookup x = some .cell) (he : SE T k N sc e d) : SS T k N sc (.Assign [.Name x pos'] e pos) (dSet i d) := fun X W c tk =>
  have hl' : X.env.scope.names.lookup x = some .cell := (c.lk x _ hl).elim id fun z => by cases z.1
  have hb : locB sc x = true := by unfold locB; rw [hl]
  PSimp (ps_set (i := i) (by rw [c.hN]; exact c.nd) (by rw [c.hN]; exact hi) (c.loc x hb).1 (he X W c.toCxOk tk) (sw_cell hl') (c.loc x hb).2) fun D σ H ⟨B, b, ρ, Z, h, env, G, er, p⟩ => ⟨B, b, ρ, Z, h, env, G, er, post.goS G er p fun ρ1 H1 v w h1 n rv q => q ρ1 H1 _ n ((er.step n G).set rv)⟩
/-! ## facts of the head -/
def ttOf (P : Program) (w : World) (K : PySem.W.Frag) (mg : Str → Option Value) (base : Heap) : Tt := ⟨true, false, P, w, K, mg, base, He.ga K⟩
def noLists (K : PySem.W.Frag) : Bool := K.all fun q => match q.2 with
  | ⟨.type c, _, .seq _ _, _⟩ => !(c == "list")
  | _ => true
theorem con_int {x : Str} {i : Int} (h : ∃ t, T.mg x = some (.int i t)) : ConOk T x (.int i) := let ⟨t, e⟩ := h; ⟨.int i, .int i t, e, ⟨t, rfl⟩, fun _ _ _ => rep_int⟩
theorem con_str {x : Str} {i : Str} (h : ∃ t, T.mg x = some (.str i t)) : ConOk T x (.str i) := let ⟨t, e⟩ := h; ⟨.str i, .str i t, e, ⟨t, rfl⟩, fun _ _ _ => rep_str⟩
theorem con_tup {x : Str} {ds : List He.Dv} {xs : List PV} (hg : T.mg x = some (.ref (He.ga T.K x))) (h : He.tupB T.K x ds = true) (hx : (xs.map fun y => match y with | .str s => some (He.Dv.str s) | _ => none) = ds.map some) (hz : szOk xs.length = true) : ConOk T x (.tup xs) := by
  refine ⟨.ref (He.ga T.K x), _, hg, rfl, fun ρ Z H => ?_⟩
  refine rep_tup (He.tupB_ok h H) (szOk_iff.mp hz) ?_
  clear h hz
  induction xs generalizing ds with
  | nil =>
    cases ds with
    | nil => unfold repL; rfl
    | cons d ds => cases hx
  | cons y ys ih =>
    cases ds with
    | nil => cases hx
    | cons d ds =>
      injection hx with h1 h2
      cases y with
      | str s =>
        injection h1 with h3
        subst h3
        unfold repL
        exact ⟨_, _, rfl, rep_str, ih h2⟩
      | _ => cases h1
theorem fld_ok {f : Str} (hc : T.cA = He.ga T.K) (h1 : L2.Cls T.K (He.ga T.K "Ground")) (h2 : L2.NoAttr T.K (He.ga T.K "Ground") f) : FldOk T f (fun c => c == "Ground") := fun c e => by
  rw [hc, eq_of_beq e]
  exact ⟨h1, h2⟩
end
end Mn
end
section
set_option Elab.async false
set_option linter.all false
set_option maxRecDepth 100000
namespace Mn
open PySem PySem.Spec L2 PyProof.Rows
/-- a script is no list of the written part -/
theorem scr_rep {cA : Str → Addr} {K : PySem.W.Frag} {H : Hp} {a : Addr} {ns : List Int} (hO : Only H) (hn : noLists K = true) (hS : SqL K H a (ns.map V.int)) : rep cA K [] [] H (.scr ns) (.ref a) := by
  unfold rep
  rcases hS with (e | ⟨o, e⟩) | ⟨o, its, m, e, ec, _⟩
  · rcases hO a with z | ⟨o, xs, z⟩
    · rw [z] at e; cases e
    · rw [z] at e; cases e
  · exact ⟨a, o, rfl, e, ⟨by simp, by simp⟩⟩
  · exfalso
    have hm := List.all_eq_true.mp hn _ (He.lookup_mem e)
    revert hm
    simp only
    obtain ⟨oc, od, dt, sl⟩ := o
    simp_all
theorem good_nil {cA : Str → Addr} {K : PySem.W.Frag} {H : Hp} : Good cA K [] 0 [] [] [] H := ⟨rfl, .nil, fun n a o e => by simp at e, Nat.le_refl _, by simp, by simp, by simp, by simp⟩
theorem walk_m {l : PySem.W.OpenLaw} {n k : Nat} {q : Program} {loose : List Str} {XP : (Str → Option Value) → Heap → Prop} {YP : World → Heap → Prop} {d : DefRec} {x : Str} (hn : l.most = some n) (hn2 : n ≤ sizeLine) (hdf : d.params.defaults = []) (hr : Room k callerA)
    (F : ∀ (w : World) (mg : Str → Option Value) (fa : Addr) (h : Heap), YP w h → h.Ns mainGlobals mg → mg d.name = some (.ref fa) → ∃ (K : PySem.W.Frag) (fd : FuncData) (f : Fn), K.In h ∧ noLists K = true ∧ (∀ (s : Shared) (u : Value), BindsTo s fd ⟨[u], []⟩ [(x, u)]) ∧ (∀ ns : List Int, ns.length ≤ n → ∃ h', f [.scr ns] 0 [] = .ok (.bl true) h') ∧
      ∀ base : Heap, K.In base → base.Ns mainGlobals mg → FnOk l.prog w K mg base (L2.CX l.prog w) k fa fd [x] (spF (ttOf l.prog w K mg base) 1 f)) : PySem.W.WalkO q loose XP YP l.row.toRowW d [] (fun f vs => PySem.call f vs) := by
  refine Att.attach_call hn hdf fun w s₀ s₁ mg mb fa o pm cd doc a vs ns G Y ho hd hcd hmg hobj hints hlen hg => ?_
  obtain ⟨K, fd, f, KX, nl, hb, hp, hF⟩ := F w mg fa _ Y G.T.g hmg
  refine law_call (sp := fun vs H Q E => spF (ttOf l.prog w K mg s₁.heap) 1 f vs H Q E) KX G.T.g G.T.b G.T.builtins G.T.nolimit hg hobj hints (Nat.le_trans hlen hn2) hr hF hb (fun H hO hS => ?_) fun H e s' ⟨_, _, _, _, _, _, _, _, _, _, _, _, z⟩ => z
  refine ⟨rfl, [], 0, [], [], [], [.scr ns], good_nil, ?_, ?_⟩
  · unfold repL
    exact ⟨_, _, rfl, scr_rep hO nl hS, by unfold repL; rfl⟩
  · obtain ⟨h', e⟩ := hp ns hlen
    rw [e]
    exact fun ρ' H' w _ r => by unfold rep at r; exact r
end Mn
end
section
set_option Elab.async false
set_option linter.all false
set_option maxRecDepth 100000
set_option maxHeartbeats 1000000
namespace Mn
namespace NS
open PySem PySem.Spec PyProof.Rows L2

/-! ## sets of nested keys: small questions -/
/-- the key lies at this address -/
def At (h : Heap) (k : NestedKey) (a : Addr) : Prop := NestedIs h k (.ref a) ∧ k.depth ≤ 8
section
variable {P : Program} {w : World}
def NoCls (P : Program) (w : World) (n : Nat) (s : Shared) (v : Value) : Prop := ∀ (A : Around) (E : Value → Shared → Prop) (Q : Bool → Shared → Prop), Q false s → wpAny (model P w) A (ofAClassStatement n v) Q E s
mutual
theorem nocls : ∀ (k : NestedKey) (v : Value) (n : Nat) (s : Shared), NestedIs s.heap k v → k.depth ≤ n → NoCls P w n s v
  | .none, _, n, s, x, _ => by cases x; intro A E Q q; cases n <;> exact wpAny_pure q
  | .num i, _, n, s, x, _ => by cases x <;> (intro A E Q q; cases n <;> exact wpAny_pure q)
  | .text y, _, n, s, x, _ => by cases x; intro A E Q q; cases n <;> exact wpAny_pure q
  | .tup ks, _, n, s, x, hn => by
    cases x with
    | @tup a o vs m _ hg hc hd hk =>
      simp only [NestedKey.depth] at hn
      cases n with
      | zero => omega
      | succ n =>
        intro A E Q q
        have hT : s.TypeIs (.ref a) "tuple" := ⟨o, hg, hc⟩
        have all := noclss ks vs.toList n s hk (by omega)
        unfold ofAClassStatement
        refine wpAny_bind (wpAny_typeOf hT ?_)
        dsimp only
        have e : (("tuple" : String) == "tuple") = true := by decide
        simp only [e, if_true, Bool.not_true, Bool.false_eq_true, if_false]
        try refine wpAny_bind (wpAny_pure ?_)
        try simp only [Bool.not_true, Bool.false_eq_true, if_false]
        refine wpAny_bind (wpAny_seqItems hg hd ?_)
        dsimp only
        refine wpAny_bind ?_
        rw [← Array.forIn_toList]
        refine wpAny_forIn_list _ (fun rest r z => r.1 = none ∧ z = s ∧ ∀ u ∈ rest, NoCls P w n s u) _ ?_ ?_ _ _ ⟨rfl, rfl, all⟩
        · rintro u rest r z ⟨hr, rfl, hs⟩
          refine wpAny_bind (hs u List.mem_cons_self _ _ _ ?_)
          simp only [Bool.false_eq_true, if_false]
          exact wpAny_pure ⟨rfl, rfl, fun y hy => hs y (List.mem_cons_of_mem _ hy)⟩
        · rintro ⟨r1, r2⟩ z ⟨hr, rfl, _⟩
          simp only at hr
          subst hr
          exact wpAny_pure q
theorem noclss : ∀ (ks : List NestedKey) (vs : List Value) (n : Nat) (s : Shared), NestedAll s.heap ks vs → NestedKey.depthAll ks ≤ n → ∀ v ∈ vs, NoCls P w n s v
  | [], _, n, s, x, _, v, hv => by cases x; cases hv
  | k :: ks, _, n, s, x, hn, v, hv => by
    cases x with
    | cons x1 x2 =>
      simp only [NestedKey.depthAll] at hn
      rcases List.mem_cons.mp hv with e | hv
      · rw [e]; exact nocls k _ n s x1 (by omega)
      · exact noclss ks _ n s x2 (by omega) v hv
end
/-- whether it is hashed by value, is asked without a trace -/
def ByV (P : Program) (w : World) (n : Nat) (s : Shared) (v : Value) : Prop := ∀ (A : Around) (E : Value → Shared → Prop) (Q : Bool → Shared → Prop), (∀ b, Q b s) → wpAny (model P w) A (hashByValue n v) Q E s
mutual
theorem byv : ∀ (k : NestedKey) (v : Value) (n : Nat) (s : Shared), NestedIs s.heap k v → k.depth ≤ n → ByV P w n s v
  | .none, _, n, s, x, _ => by cases x; intro A E Q q; cases n <;> exact wpAny_pure (q _)
  | .num i, _, n, s, x, _ => by cases x <;> (intro A E Q q; cases n <;> exact wpAny_pure (q _))
  | .text y, _, n, s, x, _ => by cases x; intro A E Q q; cases n <;> exact wpAny_pure (q _)
  | .tup ks, _, n, s, x, hn => by
    cases x with
    | @tup a o vs m _ hg hc hd hk =>
      simp only [NestedKey.depth] at hn
      cases n with
      | zero => omega
      | succ n =>
        intro A E Q q
        have hT : s.TypeIs (.ref a) "tuple" := ⟨o, hg, hc⟩
        have all := byvs ks vs.toList n s hk (by omega)
        unfold hashByValue
        refine wpAny_bind (wpAny_specialOf hT F.slot_tuple_hash.lookup ?_)
        show wpAny _ _ (seqItems? (.ref a) >>= _) _ _ s
        refine wpAny_bind (wpAny_seqItems hg hd ?_)
        refine wpAny_bind ?_
        show wpAny _ _ (forIn vs _ _) _ _ s
        rw [← Array.forIn_toList]
        refine wpAny_forIn_list _ (fun rest r z => r.1 = none ∧ z = s ∧ ∀ u ∈ rest, ByV P w n s u) _ ?_ ?_ _ _ ⟨rfl, rfl, all⟩
        · rintro u rest r z ⟨hr, rfl, hs⟩
          refine wpAny_bind (hs u List.mem_cons_self _ _ _ fun b => ?_)
          cases b with
          | true =>
            simp only [Bool.not_true, Bool.false_eq_true, if_false]
            exact wpAny_pure ⟨rfl, rfl, fun y hy => hs y (List.mem_cons_of_mem _ hy)⟩
          | false =>
            simp only [Bool.not_false, if_true]
            exact wpAny_pure (wpAny_pure (q _))
        · rintro ⟨r1, r2⟩ z ⟨hr, rfl, _⟩
          simp only at hr
          subst hr
          exact wpAny_pure (q _)
theorem byvs : ∀ (ks : List NestedKey) (vs : List Value) (n : Nat) (s : Shared), NestedAll s.heap ks vs → NestedKey.depthAll ks ≤ n → ∀ v ∈ vs, ByV P w n s v
  | [], _, n, s, x, _, v, hv => by cases x; cases hv
  | k :: ks, _, n, s, x, hn, v, hv => by
    cases x with
    | cons x1 x2 =>
      simp only [NestedKey.depthAll] at hn
      rcases List.mem_cons.mp hv with e | hv
      · rw [e]; exact byv k _ n s x1 (by omega)
      · exact byvs ks _ n s x2 (by omega) v hv
end
variable {A : Around} {E : Value → Shared → Prop} {s : Shared}
/-- keys met by the search show nothing -/
theorem unseen {k : NestedKey} {x : Addr} {Q : Bool → Shared → Prop} (hk : At s.heap k x) {ys : List Value} (hy : ∀ y ∈ ys, ∃ q c, y = Value.ref c ∧ At s.heap q c) (h : Q false s) : wpAny (model P w) A (searchCouldBeSeen (.ref x) ys) Q E s := by
  unfold searchCouldBeSeen
  refine wpAny_bind ?_
  refine wpAny_forIn_list _ (fun rest r z => r.1 = none ∧ z = s ∧ ∀ y ∈ rest, ∃ q c, y = Value.ref c ∧ At s.heap q c) _ ?_ ?_ _ _ ⟨rfl, rfl, hy⟩
  · rintro v rest r z ⟨hr, rfl, hs⟩
    obtain ⟨q, c, rfl, hc⟩ := hs v List.mem_cons_self
    have tl : ∀ y ∈ rest, ∃ q c, y = Value.ref c ∧ At z.heap q c := fun y hy => hs y (List.mem_cons_of_mem _ hy)
    dsimp only
    by_cases hv : (x == c || (carriedByValue (.ref x) && carriedByValue (.ref c))) = true
    · exact wp_if_pos hv (wpAny_pure ⟨rfl, rfl, tl⟩)
    · refine wp_if_neg hv ?_
      refine wpAny_bind (quiet_key _ _ 8 _ hk.1 hk.2 _ _ _ ?_)
      simp only [Bool.not_true, Bool.false_eq_true, if_false]
      refine wpAny_bind (quiet_key _ _ 8 _ hc.1 hc.2 _ _ _ ?_)
      simp only [Bool.not_true, Bool.false_eq_true, if_false]
      refine wpAny_bind (nocls _ _ 8 _ hk.1 hk.2 _ _ _ ?_)
      simp only [Bool.false_eq_true, if_false]
      refine wpAny_bind (nocls _ _ 8 _ hc.1 hc.2 _ _ _ ?_)
      simp only [Bool.false_eq_true, if_false]
      exact wpAny_pure ⟨rfl, rfl, tl⟩
  · rintro ⟨r1, r2⟩ z ⟨hr, rfl, _⟩
    simp only at hr
    subst hr
    exact wpAny_pure h
end
end NS
end Mn
end
section
set_option Elab.async false
set_option linter.all false
set_option maxRecDepth 100000
set_option maxHeartbeats 1000000
namespace Mn
namespace NS
open PySem PySem.Spec PyProof.Rows L2
abbrev Ent := Addr × NestedKey
section
variable {P : Program} {w : World} {A : Around} {E : Value → Shared → Prop} {s : Shared}
def ents (w : World) (L : List Ent) : List (Int × Value) := L.map fun p => (p.2.hash w, Value.ref p.1)
def hsh (w : World) (L : List Ent) : List Int := L.map fun p => p.2.hash w
/-- a small set of keys at a: its table of eight slots, at most four entries -/
structure SetN (w : World) (h : Heap) (a : Addr) (L : List Ent) (es : Array (Int × Value)) (ep : Nat) (t : SetTable) : Prop where
  ob : ∃ o, h.get? a = some o ∧ o.ExactSet ∧ o.data = .set es ep t
  rows : es.toList = ents w L
  tab : TabOk t (hsh w L)
  nd : (L.map (·.2)).Nodup
  key : ∀ p ∈ L, At h p.2 p.1
  led : w.params.followText "set-order" = true ∨ t.led = true
  m7 : t.mask = 7
  few : L.length ≤ 4
variable {a : Addr} {L : List Ent} {es : Array (Int × Value)} {ep : Nat} {t : SetTable}
theorem SetN.len (R : SetN w s.heap a L es ep t) : es.size = L.length := by
  rw [← Array.length_toList, R.rows]
  exact List.length_map ..
theorem SetN.plen (R : SetN w s.heap a L es ep t) : t.place.toList.length = L.length := by
  rw [Array.length_toList, R.tab.sz]
  exact List.length_map ..
theorem SetN.fit (R : SetN w s.heap a L es ep t) : t.fits es.size = true := by
  have z1 := R.plen
  have z2 := R.len
  have z3 := R.few
  have z4 := R.m7
  rw [Array.length_toList] at z1
  unfold SetTable.fits SetTable.fill
  rw [R.tab.dm, Bool.and_eq_true, beq_iff_eq, decide_eq_true_eq]
  refine ⟨by omega, ?_⟩
  show t.place.size + 0 ≤ t.mask
  omega
theorem SetN.ent (R : SetN w s.heap a L es ep t) {i : Nat} {p : Ent} (h : L[i]? = some p) : es[i]? = some (p.2.hash w, Value.ref p.1) := by
  rw [← Array.getElem?_toList, R.rows, ents, List.getElem?_map, h]
  rfl
theorem SetN.whole (R : SetN w s.heap a L es ep t) : ¬ t.gaveWay = true := by
  unfold SetTable.gaveWay
  rw [R.m7]
  decide
/-- the way of a hash through the table, from a step on -/
abbrev pr (t : SetTable) (hh : Int) (c : Nat) : SetTable.Probe := nth t.mask (runAt t.mask (SetTable.bits hh % (t.mask + 1)) (SetTable.bits hh)) c
theorem pr_dummy (t : SetTable) (hh : Int) (c : Nat) : (pr t hh c).dummy = none := by
  have go : ∀ (n : Nat) (p : SetTable.Probe), p.dummy = none → (nth t.mask p n).dummy = none := by
    intro n
    induction n with
    | zero => exact fun p h => h
    | succ n ih =>
      intro p h
      refine ih (adv t.mask p) ?_
      unfold adv
      split <;> exact h
  exact go c _ rfl
theorem pr_add (t : SetTable) (hh : Int) (c q : Nat) : nth t.mask (pr t hh c) q = pr t hh (c + q) := (nth_add t.mask c _ q).symm
theorem pr_at (t : SetTable) (hh : Int) (c q : Nat) : (nth t.mask (pr t hh c) q).j = way t.mask hh (c + q) := congrArg SetTable.Probe.j (pr_add t hh c q)
def hAt (es : Array (Int × Value)) (i : Nat) : Int := (es[i]?.map (·.1)).getD 0
theorem SetN.hAt (R : SetN w s.heap a L es ep t) {i : Nat} {p : Ent} (h : L[i]? = some p) : NS.hAt es i = p.2.hash w := by
  unfold NS.hAt
  rw [R.ent h]
  rfl
/-- what follows a met entry -/
theorem SetN.met (R : SetN w s.heap a L es ep t) {x : Addr} {k : NestedKey} (hx : At s.heap k x) (hu : A.units + 8 < cLine) {j i f : Nat} {p : Ent} {nx : SetTable.Probe} {Q : SetFound → Shared → Prop} (hi : t.place.toList[i]? = some j) (hp : L[i]? = some p)
    (yes : p.2 = k → Q (.there none) s) (no : p.2 ≠ k → wpAny (model P w) A (setSearchFrom a (.ref x) (k.hash w) true f (some nx)) Q E s) : wpAny (model P w) A (searchRest a (.ref x) (k.hash w) true f es t j i nx) Q E s := by
  obtain ⟨o, ho, _, hd⟩ := R.ob
  have ky := R.key p (List.mem_of_getElem? hp)
  unfold searchRest
  rw [R.ent hp]
  dsimp only
  refine wpAny_bind (wpAny_holding ((nestedKind P w).eqBool (x := p.2) (y := k) hu ky hx ?_))
  refine wpAny_bind (wpAny_setState_of ho hd R.fit ?_)
  dsimp only
  by_cases e : p.2 = k
  · exact wp_if_pos (by simp [e]) (wpAny_pure (yes e))
  · refine wp_if_neg (by simp [e]) ?_
    try refine wpAny_bind (wpAny_pure ?_)
    rw [sameMem]
    dsimp only
    simp only [if_true, slot_live R.tab.ris hi, R.ent hp]
    refine wpAny_bind (wpAny_isSame_ref_self (wpAny_bind (wpAny_pure ?_)))
    simp only [if_true]
    exact wp_if_neg (by simp [e]) (no e)
/-- the search among the keys -/
theorem SetN.look (R : SetN w s.heap a L es ep t) {x : Addr} {k : NestedKey} (hx : At s.heap k x) (hu : A.units + 8 < cLine) {K : Nat} (hf : K < 10 * SetTable.turns t.mask) (hK : way t.mask (k.hash w) K ∉ t.place.toList) (hb : ∀ c, c < K → way t.mask (k.hash w) c ∈ t.place.toList) {Q : SetFound → Shared → Prop}
    (yes : k ∈ L.map (·.2) → Q (.there none) s) (no : k ∉ L.map (·.2) → Q (.free (way t.mask (k.hash w) K) false) s) : ∀ (m c f : Nat) (stand : Option SetTable.Probe), K - c ≤ m → c ≤ K → m < f → stand.getD (t.probeStart (k.hash w)) = pr t (k.hash w) c →
      (∀ (i : Nat) (p : Ent), L[i]? = some p → p.2 = k → ∃ d, c ≤ d ∧ d < K ∧ t.place.toList[i]? = some (way t.mask (k.hash w) d)) → wpAny (model P w) A (setSearchFrom a (.ref x) (k.hash w) true f stand) Q E s := by
  intro m
  induction m with
  | zero =>
    intro c f stand h1 h2 h3 h4 h5
    have hc : c = K := by omega
    subst hc
    cases f with
    | zero => omega
    | succ f =>
      obtain ⟨o, ho, _, hd⟩ := R.ob
      rw [setSearchFrom_succ]
      refine wpAny_bind (wpAny_setState_of ho hd R.fit ?_)
      dsimp only
      refine wp_if_neg R.whole ?_
      try refine wpAny_bind (wpAny_pure ?_)
      have sp := go_spec t R.tab.ris R.tab.dm (NS.hAt es) (k.hash w) (10 * SetTable.turns t.mask) 0 (pr t (k.hash w) c) (pr_dummy ..) (by omega) (fun q hq => by omega) hK
      rcases sp with ⟨q, i, hq, _⟩ | ⟨_, hpr⟩
      · omega
      · have e : t.probe (fun i => (es[i]?.map (·.1)).getD 0) (k.hash w) (stand.getD (t.probeStart (k.hash w))) = some (.empty (way t.mask (k.hash w) c) none) := by rw [h4]; exact hpr
        rw [e]
        refine wpAny_pure (no fun hm => ?_)
        obtain ⟨p, hp, e⟩ := List.mem_map.mp hm
        obtain ⟨i, hi, e2⟩ := List.getElem_of_mem hp
        obtain ⟨d, d1, d2, _⟩ := h5 i p (by rw [List.getElem?_eq_getElem hi, e2]) e
        omega
  | succ m ih =>
    intro c f stand h1 h2 h3 h4 h5
    cases f with
    | zero => omega
    | succ f =>
      obtain ⟨o, ho, _, hd⟩ := R.ob
      rw [setSearchFrom_succ]
      refine wpAny_bind (wpAny_setState_of ho hd R.fit ?_)
      dsimp only
      refine wp_if_neg R.whole ?_
      try refine wpAny_bind (wpAny_pure ?_)
      have sp := go_spec t R.tab.ris R.tab.dm (NS.hAt es) (k.hash w) (10 * SetTable.turns t.mask) (K - c) (pr t (k.hash w) c) (pr_dummy ..) (by omega)
        (fun q hq => by rw [pr_at]; exact hb (c + q) (by omega)) (by rw [pr_at, Nat.add_sub_cancel' h2]; exact hK)
      have key_at : ∀ (i : Nat) (p : Ent), L[i]? = some p → p.2 = k → NS.hAt es i = k.hash w := fun i p hp e => by rw [R.hAt hp, e]
      rcases sp with ⟨q, i, hq, hi, hh, hno, hpr⟩ | ⟨hno, hpr⟩
      · have e : t.probe (fun i => (es[i]?.map (·.1)).getD 0) (k.hash w) (stand.getD (t.probeStart (k.hash w))) = some (.candidate (way t.mask (k.hash w) (c + q)) i (pr t (k.hash w) (c + (q + 1)))) := by
          rw [h4, ← pr_at, ← pr_add]
          exact hpr
        rw [e]
        dsimp only
        rw [pr_at] at hi
        have il : i < L.length := by rw [← R.plen]; exact (List.getElem?_eq_some_iff.mp hi).1
        obtain ⟨p, hp⟩ : ∃ p, L[i]? = some p := ⟨_, List.getElem?_eq_getElem il⟩
        have on : wpAny (model P w) A (searchRest a (.ref x) (k.hash w) true f es t (way t.mask (k.hash w) (c + q)) i (pr t (k.hash w) (c + (q + 1)))) Q E s := by
          refine R.met hx hu hi hp (fun e => yes (List.mem_map.mpr ⟨p, List.mem_of_getElem? hp, e⟩)) fun ne => ?_
          refine ih (c + (q + 1)) f _ (by omega) (by omega) (by omega) rfl fun i0 p0 h0 k0 => ?_
          obtain ⟨d, d1, d2, d3⟩ := h5 i0 p0 h0 k0
          refine ⟨d, Nat.le_of_not_lt fun lt => ?_, d2, d3⟩
          rcases Nat.lt_or_ge d (c + q) with z | z
          · exact hno (d - c) i0 (by omega) (by rw [pr_at, Nat.add_sub_cancel' d1]; exact d3) (key_at i0 p0 h0 k0)
          · have ed : d = c + q := by omega
            rw [ed] at d3
            have l1 := slot_live R.tab.ris hi
            rw [slot_live R.tab.ris d3] at l1
            injection l1 with l1
            rw [l1, hp] at h0
            exact ne ((congrArg Prod.snd (Option.some.inj h0)).trans k0)
        by_cases hl : t.led = true
        · refine wp_if_neg (by simp [hl]) ?_
          try refine wpAny_bind (wpAny_pure ?_)
          exact on
        · refine wp_if_pos (by simp [hl]) (wpAny_bind (unseen hx (fun y hy => ?_) ?_))
          · obtain ⟨e, he, ey⟩ := List.mem_map.mp hy
            have m1 : e ∈ es.toList := by
              have m2 : e ∈ es ∧ e.1 = k.hash w := by simpa using he
              simpa using m2.1
            rw [R.rows] at m1
            obtain ⟨p2, m3, e2⟩ := List.mem_map.mp m1
            exact ⟨p2.2, p2.1, by rw [← ey, ← e2], R.key p2 m3⟩
          · refine wp_if_neg (by decide) ?_
            try refine wpAny_bind (wpAny_pure ?_)
            exact on
      · have e : t.probe (fun i => (es[i]?.map (·.1)).getD 0) (k.hash w) (stand.getD (t.probeStart (k.hash w))) = some (.empty (way t.mask (k.hash w) K) none) := by
          rw [pr_at, Nat.add_sub_cancel' h2] at hpr
          rw [h4]
          exact hpr
        rw [e]
        dsimp only
        refine wpAny_pure (no fun hm => ?_)
        obtain ⟨p, hp, ek⟩ := List.mem_map.mp hm
        obtain ⟨i, hi, e2⟩ := List.getElem_of_mem hp
        have hp2 : L[i]? = some p := by rw [List.getElem?_eq_getElem hi, e2]
        obtain ⟨d, d1, d2, d3⟩ := h5 i p hp2 ek
        exact hno (d - c) i (by omega) (by rw [pr_at, Nat.add_sub_cancel' d1]; exact d3) (key_at i p hp2 ek)
/-- asked from the start -/
theorem SetN.find (R : SetN w s.heap a L es ep t) {x : Addr} {k : NestedKey} (hx : At s.heap k x) (hu : A.units + 8 < cLine) {Q : SetFound → Shared → Prop} (yes : k ∈ L.map (·.2) → Q (.there none) s)
    (no : ∀ K, k ∉ L.map (·.2) → way t.mask (k.hash w) K ∉ t.place.toList → (∀ c, c < K → way t.mask (k.hash w) c ∈ t.place.toList) → Q (.free (way t.mask (k.hash w) K) false) s) : wpAny (model P w) A (setSearch a (.ref x) (k.hash w) true) Q E s := by
  have hl : (hsh w L).length = L.length := List.length_map ..
  obtain ⟨K, k1, k2, k3⟩ := R.tab.first (by rw [hl, R.m7]; have := R.few; omega) (k.hash w)
  have big : K < 99999 := by
    rw [R.m7] at k1
    have : 10 * SetTable.turns 7 ≤ 1420 := by decide
    omega
  unfold setSearch
  refine R.look hx hu k1 k2 k3 yes (fun n => no K n k2 k3) K 0 100000 none (Nat.le_refl _) (Nat.zero_le _) (by omega) rfl fun i p hp e => ?_
  have h1 : (hsh w L)[i]? = some (k.hash w) := by rw [hsh, List.getElem?_map, hp, ← e]; rfl
  have h2 : i < t.place.toList.length := by rw [R.plen]; exact (List.getElem?_eq_some_iff.mp hp).1
  obtain ⟨c, c1, c2⟩ := R.tab.before k2 h1 (List.getElem?_eq_getElem h2)
  exact ⟨c, Nat.zero_le _, c1, by rw [List.getElem?_eq_getElem h2, c2]⟩
/-- a key's tuple is not the set -/
theorem At.same {h h' : Heap} {k : NestedKey} {a b : Addr} {o : Obj} (x : At h k b) (ho : h.get? a = some o) (hd : o.data = .set es ep t) (sb : Heap.SameBut a h h') : At h' k b :=
  ⟨NestedIs.at (fun c ob vs n hb hc => (sb.2 c fun e => by
    rw [e, ho] at hb
    cases hb
    rw [hd] at hc
    cases hc).trans hb) k _ x.1, x.2⟩
/-- one more key -/
theorem SetN.add (R : SetN w s.heap a L es ep t) {x : Addr} {k : NestedKey} (hx : At s.heap k x) (hu : A.units + 8 < cLine) (room : k ∉ L.map (·.2) → L.length < 4) {Q : Bool → Shared → Prop}
    (hQ : ∀ b h' L' es' ep' t', Heap.SameBut a s.heap h' → SetN w h' a L' es' ep' t' → (k ∈ L.map (·.2) → L' = L) → (k ∉ L.map (·.2) → L'.Perm ((x, k) :: L)) → Q b { s with heap := h' }) : wpAny (model P w) A (setAddHashed a (.ref x) (k.hash w)) Q E s := by
  obtain ⟨o, ho, hex, hd⟩ := R.ob
  unfold setAddHashed
  refine wpAny_holding ?_
  rw [show (100000 : Nat) = 99999 + 1 from rfl, setAddHashedIn_succ]
  refine wpAny_bind (wpAny_setState_of ho hd R.fit ?_)
  dsimp only
  refine wp_if_neg (by simp [byScan, Value.scannable]) ?_
  try refine wpAny_bind (wpAny_pure ?_)
  refine wpAny_bind (R.find hx hu (fun hm => ?_) fun K hm hK hb => ?_)
  · exact wpAny_pure (hQ false s.heap L es ep t (Heap.SameBut.refl a s.heap) R (fun _ => rfl) fun z => absurd hm z)
  · dsimp only
    refine wpAny_bind (wpAny_setState_of ho hd R.fit ?_)
    dsimp only
    obtain ⟨q1, q2, q3, q4, q5, _, _, _, q9⟩ := R.tab.put hK hb
    generalize hpt : t.put (way t.mask (k.hash w) K) = pt at q1 q3 q4 q5 q9 ⊢
    obtain ⟨t1, p⟩ := pt
    dsimp only at q1 q3 q4 q5 q9 ⊢
    subst q1
    have lt4 := room hm
    generalize SetTable.below t.place (way t.mask (k.hash w) K) = p at q2 q3 ⊢
    have pm : (L.take p ++ (x, k) :: L.drop p).Perm ((x, k) :: L) := by
      have z : (L.take p ++ (x, k) :: L.drop p).Perm ((x, k) :: (L.take p ++ L.drop p)) := List.perm_middle
      rwa [List.take_append_drop] at z
    have in1 : (SetTable.insertAt es p (k.hash w, Value.ref x)).toList = ents w (L.take p ++ (x, k) :: L.drop p) := by
      rw [SetTable.toList_insertAt, R.rows]
      simp [ents, List.map_take, List.map_drop]
    have hs1 : (hsh w L).take p ++ k.hash w :: (hsh w L).drop p = hsh w (L.take p ++ (x, k) :: L.drop p) := by simp [hsh, List.map_take, List.map_drop]
    rw [hs1] at q3
    have nd1 : ((L.take p ++ (x, k) :: L.drop p).map (·.2)).Nodup := by
      refine (pm.map (·.2)).nodup_iff.mpr ?_
      rw [List.map_cons]
      exact List.nodup_cons.mpr ⟨hm, R.nd⟩
    have ln1 : (L.take p ++ (x, k) :: L.drop p).length = L.length + 1 := pm.length_eq
    have sz1 : (SetTable.insertAt es p (k.hash w, Value.ref x)).size = L.length + 1 := by
      rw [← Array.length_toList, in1, ents, List.length_map, ln1]
    generalize SetTable.insertAt es p (k.hash w, Value.ref x) = e1 at in1 sz1 ⊢
    generalize L.take p ++ (x, k) :: L.drop p = L1 at pm ln1 q3 nd1 in1
    have fin : ∀ t2 : SetTable, t2 = t1 ∨ t2 = { t1 with plain := false } → wpAny (model P w) A (do
        storeSet a e1 t2
        if !false && t2.tooFull then setRelay a (SetTable.grown (es.size + 1))
        return true) Q E s := fun t2 ht2 => by
      have T2 : TabOk t2 (hsh w L1) := by
        rcases ht2 with e | e
        · rw [e]; exact q3
        · rw [e]; exact ⟨q3.ris, q3.dm, q3.sz, q3.mok, q3.bd, q3.reach⟩
      have m2 : t2.mask = 7 := by rcases ht2 with e | e <;> (rw [e]; exact q4.trans R.m7)
      have l2 : w.params.followText "set-order" = true ∨ t2.led = true := R.led.imp id fun z => by rcases ht2 with e | e <;> (rw [e]; exact q5.trans z)
      have f2 : t2.fill = L.length + 1 := by
        have z : t1.fill = L.length + 1 := by rw [q9]; simp [hsh]
        rcases ht2 with e | e <;> (rw [e]; exact z)
      have nf : t2.tooFull = false := by
        unfold SetTable.tooFull
        rw [f2, m2]
        exact decide_eq_false (by omega)
      have fit2 : t2.fits e1.size = true := by
        have z := T2.sz
        simp only [hsh, List.length_map, ln1] at z
        unfold SetTable.fits SetTable.fill
        rw [T2.dm, Bool.and_eq_true, beq_iff_eq, decide_eq_true_eq, z, sz1, m2]
        exact ⟨rfl, by show L.length + 1 + 0 ≤ 7; omega⟩
      refine wpAny_bind (wpAny_storeSet_of ho hd ?_ (by rw [sz1, sizeLine_eq]; omega))
      have sb : Heap.SameBut a s.heap (s.heap.update a (Obj.putSet e1 t2)) := Heap.SameBut.update ..
      have ho1 := store_at (es' := e1) (t' := t2) ho hd
      have ky1 : ∀ q ∈ L1, At (s.heap.update a (Obj.putSet e1 t2)) q.2 q.1 := fun q hq => by
        rcases List.mem_cons.mp (pm.mem_iff.mp hq) with e | hq
        · rw [e]; exact hx.same ho hd sb
        · exact (R.key q hq).same ho hd sb
      rw [nf]
      first
        | refine wp_if_neg (by simp) ?_
        | (refine wpAny_bind ?_; refine wp_if_neg (by simp) ?_; refine wpAny_pure ?_)
      exact wpAny_pure (hQ true _ L1 e1 (ep + 1) t2 sb ⟨⟨_, ho1, ⟨hex.1, hex.2.1, hex.2.2⟩, rfl⟩, in1, T2, nd1, ky1, l2, m2, by omega⟩ (fun z => absurd z hm) fun _ => pm)
    by_cases hp : t1.plain = true
    · have asked := byv (P := P) (w := w) k _ 8 s hx.1 hx.2
      first
        | refine wp_if_pos hp (wpAny_bind (asked _ _ _ fun b => ?_))
        | (refine wpAny_bind ?_; refine wp_if_pos hp (asked _ _ _ fun b => ?_))
      cases b with
      | true => simp only [if_true]; exact fin t1 (.inl rfl)
      | false => simp only [Bool.false_eq_true, if_false]; exact fin _ (.inr rfl)
    · first
        | (refine wp_if_neg hp ?_; try refine wpAny_bind (wpAny_pure ?_))
        | (refine wpAny_bind ?_; refine wp_if_neg hp (wpAny_pure ?_))
      simp only [if_true]
      exact fin t1 (.inl rfl)
end
end NS
end Mn
end
section
set_option Elab.async false
set_option linter.all false
set_option maxRecDepth 100000
set_option maxHeartbeats 3200000
namespace Mn
namespace NS
open PySem PySem.Spec PyProof.Rows L2
section
variable {P : Program} {w : World} {A : Around} {E : Value → Shared → Prop} {s : Shared}
/-- what is in the set behind the first i items -/
structure Have (ks : List Ent) (i : Nat) (L : List Ent) : Prop where
  sub : ∀ p ∈ L, p ∈ ks
  all : ∀ p ∈ ks.take i, p.2 ∈ L.map (·.2)
theorem take_succ_of {α : Type} {l : List α} {i : Nat} {x : α} (h : l[i]? = some x) : l.take (i + 1) = l.take i ++ [x] := by
  rw [List.take_succ, h]; rfl
theorem Have.next {ks L L' : List Ent} {i : Nat} {x : Ent} (g : Have ks i L) (h : ks[i]? = some x) (c1 : x.2 ∈ L.map (·.2) → L' = L) (c2 : x.2 ∉ L.map (·.2) → L'.Perm (x :: L)) : Have ks (i + 1) L' := by
  rcases Classical.em (x.2 ∈ L.map (·.2)) with c | c
  · rw [c1 c]
    refine ⟨g.sub, fun p hp => ?_⟩
    rw [take_succ_of h] at hp
    rcases List.mem_append.mp hp with z | z
    · exact g.all p z
    · rw [List.mem_singleton.mp z]; exact c
  · have pm := c2 c
    refine ⟨fun p hp => ?_, fun p hp => ?_⟩
    · rcases List.mem_cons.mp (pm.mem_iff.mp hp) with e | z
      · rw [e]; exact List.mem_of_getElem? h
      · exact g.sub p z
    · rw [(pm.map (·.2)).mem_iff, List.map_cons]
      rw [take_succ_of h] at hp
      rcases List.mem_append.mp hp with z | z
      · exact List.mem_cons_of_mem _ (g.all p z)
      · rw [List.mem_singleton.mp z]; exact List.mem_cons_self
/-- at most four keys -/
def Four (ks : List Ent) : Prop := ∀ M : List NestedKey, M.Nodup → (∀ k ∈ M, k ∈ ks.map (·.2)) → M.length ≤ 4
theorem At.keep {h h' : Heap} {k : NestedKey} {b : Addr} (x : At h k b) (hk : ∀ c o, h.get? c = some o → h'.get? c = some o) : At h' k b := ⟨NestedIs.at (fun c o _ _ e _ => hk c o e) k _ x.1, x.2⟩
theorem SetN.keep {h h' : Heap} {a : Addr} {L : List Ent} {es : Array (Int × Value)} {ep : Nat} {t : SetTable} (R : SetN w h a L es ep t) (ha : ∀ o, h.get? a = some o → h'.get? a = some o) (hk : ∀ p ∈ L, At h' p.2 p.1) : SetN w h' a L es ep t :=
  let ⟨o, ho, r⟩ := R.ob
  ⟨⟨o, ha o ho, r⟩, R.rows, R.tab, R.nd, hk, R.led, R.m7, R.few⟩
def newO (w : World) : Obj := { cls := .type "set", dict := none, data := .set #[] 0 (.fresh 0 0 (!w.params.followText "set-order")) }
theorem setN_new {h : Heap} {a : Addr} (ho : h.get? a = some (newO w)) : SetN w h a [] #[] 0 (.fresh 0 0 (!w.params.followText "set-order")) where
  ob := ⟨_, ho, ⟨rfl, rfl, rfl⟩, rfl⟩
  rows := rfl
  tab := ⟨List.Pairwise.nil, rfl, rfl, .inl rfl, fun x hx => (by cases hx), fun i h j hi => (by simp [hsh] at hi)⟩
  nd := List.nodup_nil
  key := fun p hp => by cases hp
  led := by
    show _ ∨ (!w.params.followText "set-order") = true
    cases w.params.followText "set-order"
    · exact .inr rfl
    · exact .inl rfl
  m7 := rfl
  few := by decide
/-- the loop of set.update -/
theorem upd_loop {I : Addr} {fp wr : List Addr} {G : Array GenState → Array GenState → Prop} {n : Nat} {Pv : Nat → Value → Prop} {St : Nat → Shared → Prop} {R : Result → Shared → Prop} (W : WalksS P w A.in1 I fp wr G n Pv St) (S : Addr) (hSf : S ∉ fp) (ks : List Ent) (hn : n = ks.length) (f4 : Four ks)
    (hval : ∀ i v, Pv i v → ∃ p, ks[i]? = some p ∧ v = .ref p.1) (h0 : Heap) (hk : ∀ p ∈ ks, At h0 p.2 p.1) (hS0 : h0.get? S = none) (hw0 : ∀ b ∈ wr, h0.get? b = none) (hu : A.in1.units + 8 < cLine) :
    ∀ (m i : Nat) (s : Shared), n - i = m → i ≤ n → St i s → (∀ b o, h0.get? b = some o → s.heap.get? b = some o) → (∃ L es ep t, SetN w s.heap S L es ep t ∧ Have ks i L) →
      (∀ s' L es ep t, Moved (S :: wr) G s s' → SetN w s'.heap S L es ep t → Have ks n L → (∀ b o, h0.get? b = some o → s'.heap.get? b = some o) → R (.ok (.ret .none)) s') → codeAny (model P w) A (.builtin "set.update.loop" ⟨[.ref S, .ref I], []⟩) R s := by
  have off : S ∉ wr := fun h => hSf (W.sub _ h)
  have wide : ∀ b ∈ wr, b ∈ S :: wr := fun b hb => List.mem_cons_of_mem _ hb
  have stay : ∀ {s s' : Shared}, Moved wr G s s' → (∀ b o, h0.get? b = some o → s.heap.get? b = some o) → ∀ b o, h0.get? b = some o → s'.heap.get? b = some o := fun hm z b o e => hm.heap b o (fun hb => by rw [hw0 b hb] at e; cases e) (z b o e)
  intro m
  induction m with
  | zero =>
    intro i s em hi hst kp ⟨L, es, ep, t, hS, g⟩ hR
    obtain rfl : i = n := by omega
    refine codeAny_builtin F.entry_set_update_loop ?_
    rw [Around.under_plainId F.plain_set_update_loop _]
    refine wpAny_bind (W.done s _ _ hst fun s' hm => ?_)
    have kp' := stay hm kp
    exact wpAny_pure (hR s' L es ep t (hm.mono wide) (hS.keep (fun o e => hm.heap S o off e) fun p hp => (hk p (g.sub p hp)).keep kp') g kp')
  | succ m ih =>
    intro i s em hi hst kp ⟨L, es, ep, t, hS, g⟩ hR
    have lt : i < n := by omega
    refine codeAny_builtin F.entry_set_update_loop ?_
    rw [Around.under_plainId F.plain_set_update_loop _]
    refine wpAny_bind (W.item i s _ _ lt hst fun v s' hP hst' hm => ?_)
    obtain ⟨p, hp, rfl⟩ := hval i v hP
    have kp' := stay hm kp
    have hS' : SetN w s'.heap S L es ep t := hS.keep (fun o e => hm.heap S o off e) fun q hq => (hk q (g.sub q hq)).keep kp'
    have hx : At s'.heap p.2 p.1 := (hk p (List.mem_of_getElem? hp)).keep kp'
    show wpAny _ A.in1 (holding [Value.ref p.1] (setAdd S (.ref p.1)) >>= _) _ _ s'
    refine wpAny_bind (wpAny_holding ?_)
    unfold setAdd
    refine wpAny_holding (wpAny_bind (pyHash_key _ _ _ _ _ hx.1 (by have := hx.2; omega) ?_))
    refine SetN.add (P := P) (s := { s' with toks := s'.toks + p.2.draws }) hS' hx hu (fun hm => ?_) fun b h' L' es' ep' t' sb hS2 c1 c2 => ?_
    · have z := f4 (p.2 :: L.map (·.2)) (List.nodup_cons.mpr ⟨hm, hS.nd⟩) (fun k hk' => by
        rcases List.mem_cons.mp hk' with e | hk'
        · rw [e]; exact List.mem_map.mpr ⟨p, List.mem_of_getElem? hp, rfl⟩
        · obtain ⟨q, hq, e⟩ := List.mem_map.mp hk'
          exact List.mem_map.mpr ⟨q, g.sub q hq, e⟩)
      rw [List.length_cons, List.length_map] at z
      omega
    · have kp2 : ∀ b o, h0.get? b = some o → h'.get? b = some o := fun b o e => (sb.2 b (fun z => by rw [z, hS0] at e; cases e)).trans (kp' b o e)
      refine wpAny_pure ⟨plainId_quiet F.plain_set_update_loop _, ih (i + 1) _ (by omega) lt (W.frame _ s' _ _ hst' (Nat.le_add_right _ _) fun b hb o e => ?_) kp2 ⟨L', es', ep', t', hS2, g.next hp c1 c2⟩ fun s'' L2 es2 ep2 t2 hm'' hS'' g'' kp'' => ?_⟩
      · rw [sb.2 b (fun h : b = S => hSf (by rw [← h]; exact hb))]; exact e
      · refine hR s'' L2 es2 ep2 t2 (Moved.trans W.gtrans ((hm.mono wide).then_heap (Nat.le_add_right _ _) fun b o hb e => ?_) hm'') hS'' g'' kp''
        rw [sb.2 b (fun h : b = S => hb (by rw [h]; exact List.mem_cons_self))]; exact e
set_option maxRecDepth 100000 in
/-- set(xs) of a list of keys -/
theorem call_setN {l : Addr} {items : Array Value} (ks : List Ent) {Q : Value → Shared → Prop} (hh : A.handled = none) (hl : s.heap.IsList l items) (hit : items.toList = ks.map fun p => Value.ref p.1) (hk : ∀ p ∈ ks, At s.heap p.2 p.1) (f4 : Four ks) (hu : A.units + 11 < cLine)
    (h : ∀ (h' : Heap) (tk : Nat) L es ep t, SetN w h' s.heap.objs.size L es ep t → Have ks ks.length L → (∀ b o, s.heap.get? b = some o → h'.get? b = some o) → Q (.ref s.heap.objs.size) { s with heap := h', toks := tk }) : wpAny (model P w) A (call (.type "set") [.ref l]) Q E s := by
  have isz : items.size = ks.length := by
    rw [← Array.length_toList, hit, List.length_map]
  obtain ⟨c, tl, hmro⟩ := F.called_set.mro
  have hmade := F.called_set.made; have hsub := F.called_set.sub
  refine wpAny_call (codeAny_of_tree ?_)
  show wpAny _ _ (callAny (.type "set") _) _ _ _
  refine wpAny_pure ⟨Code.quiet_builtin _ (by decide +kernel), codeAny_builtin F.entry_type_call ?_⟩
  rw [Around.under_plain (weight_type_call_type "set" [.ref l] []) rfl]
  have h1 := F.called_set.notType; have h2 := F.called_set.canCreate
  have hct := F.typeCall_set_1 (.ref l)
  repeat (any_goals (first | assumption | wp_step))
  refine codeAny_mono (code_set_led1 (.ref l) (E := E) (Q₁ := fun obj s₁ => obj = .ref s.heap.objs.size ∧ s₁ = { s with heap := s.heap.push (newO w) }) ⟨rfl, rfl⟩) fun r s₁ hr => ?_
  cases r with
  | error e => exact hr
  | ok fl =>
    cases fl with
    | ret obj =>
      obtain ⟨rfl, rfl⟩ := hr
      have hS : (s.heap.push (newO w)).get? s.heap.objs.size = some (newO w) := Heap.get?_push_size _ rfl
      have hT : Shared.TypeIs { s with heap := s.heap.push (newO w) } (.ref s.heap.objs.size) "set" := ⟨_, hS, rfl⟩
      have hli := F.called_set.init.lookup; have hbi := F.called_set.init.bind (.ref s.heap.objs.size)
      repeat (any_goals (first | assumption | wp_step))
      refine codeAny_mono (codeAny_call_builtin (R := wants (fun r s₂ => r = .none ∧ ∃ h' tk L es ep t, s₂ = { s with heap := h', toks := tk } ∧ SetN w h' s.heap.objs.size L es ep t ∧ Have ks ks.length L ∧ (∀ b o, s.heap.get? b = some o → h'.get? b = some o)) E) F.called_set.init.plain F.entry_set_init (check_set_init_1 hT ?_)) fun r₂ s₂ hr₂ => ?_
      · obtain ⟨ol, hol, hcl, nl, hdl⟩ := hl
        obtain ⟨ocls, odict, odata, oslots⟩ := ol
        simp only at hcl hdl
        subst hcl; subst hdl
        have hol' : (s.heap.push (newO w)).get? l = some { cls := .type "list", dict := odict, data := .seq items nl, slots := oslots } := Heap.get?_push_of_some _ hol
        have hsls := F.sub_list_set; have hslf := F.sub_list_frozenset
        have hne : (Value.type "list" == Value.type "dict") = false := by decide
        have hl1 : (s.heap.push (newO w)).IsList l items := ⟨_, hol', rfl, nl, rfl⟩
        unfold Builtin.«set.__init__» noKeywords Builtin.Frozenset.updateFrom
        generalize hPI : pyIter = PI
        wp_walk
        subst hPI
        refine wpAny_pyIter_list hl1 (wpAny_bind (wpAny_runValue ?_))
        have hlS : l < s.heap.objs.size := Heap.lt_size hol
        have hh3 : A.in1.in1.in1.handled = none := by simp [hh]
        have neI : l ≠ (s.heap.push (newO w)).objs.size := by
          rw [Heap.size_push]; exact Nat.ne_of_lt (Nat.lt_succ_of_lt hlS)
        have Sfp : s.heap.objs.size ∉ [(s.heap.push (newO w)).objs.size, l] := by
          rw [Heap.size_push]; simp only [List.mem_cons, List.mem_singleton, List.not_mem_nil, or_false, not_or]
          exact ⟨Nat.ne_of_lt (Nat.lt_succ_self _), Nat.ne_of_gt hlS⟩
        have vals : ∀ (i : Nat) (v : Value), items[i]? = some v → ∃ p, ks[i]? = some p ∧ v = .ref p.1 := fun i v hv => by
          rw [← Array.getElem?_toList, hit, List.getElem?_map] at hv
          cases hq : ks[i]? with
          | none => rw [hq] at hv; cases hv
          | some p => rw [hq] at hv; exact ⟨p, rfl, (Option.some.inj hv).symm⟩
        have empty : ∀ b, s.heap.objs.size ≤ b → s.heap.get? b = none := fun b hb => by
          cases q : s.heap.get? b with
          | none => rfl
          | some o => exact absurd (Nat.lt_of_lt_of_le (Heap.lt_size q) hb) (Nat.lt_irrefl _)
        refine upd_loop ((Walks.list hh3 _ l neI items).toS) s.heap.objs.size Sfp ks isz f4 vals s.heap hk (empty _ (Nat.le_refl _)) (fun b hb => empty b (by
            rw [List.mem_singleton.mp hb, Heap.size_push]; exact Nat.le_succ _)) (by show A.units + 1 + 1 + 1 + 8 < _; omega) (items.size - 0) 0 _ (by omega) (Nat.zero_le _)
          ⟨⟨_, Heap.get?_push_size _ rfl, rfl, rfl⟩, (hl1.push _)⟩ (fun b o e => Heap.get?_push_of_some _ (Heap.get?_push_of_some _ e)) ?hS0 ?hR
        case hS0 => exact ⟨[], #[], 0, _, setN_new (Heap.get?_push_of_some _ hS), ⟨fun p hp => (by cases hp), fun p hp => (by simp at hp)⟩⟩
        case hR =>
          intro s' L es ep t hm hS' g' kp
          obtain ⟨h', g2, d', tk', os'⟩ := s'
          have eg : g2 = s.gens := hm.gens
          have ed : d' = s.drawn := hm.drawn
          have eo : os' = s.os := hm.os
          subst eg; subst ed; subst eo
          show wpAny _ _ _ _ _ _
          refine wpAny_pure ?_
          show wpAny _ _ (ret Value.none) _ _ _
          rw [isz] at g'
          exact wpAny_pure ⟨rfl, h', tk', L, es, ep, t, rfl, hS', g', kp⟩
      · cases r₂ with
        | error e => exact hr₂
        | ok fl₂ =>
          cases fl₂ with
          | ret r =>
            obtain ⟨rfl, h', tk, L, es, ep, t, rfl, hS', g', kp⟩ := hr₂
            repeat (any_goals (first | assumption | wp_step))
            exact h _ _ _ _ _ _ hS' g' kp
          | _ => exact hr₂.elim
    | _ => exact hr.elim
end
end NS
end Mn
end
section
set_option Elab.async false
set_option linter.all false
set_option maxRecDepth 100000
set_option maxHeartbeats 3200000
namespace Mn
namespace NS
open PySem PySem.Spec PyProof.Rows L2
/-! ## keys and values -/
mutual
def keyK : PV → Option NestedKey
  | .non => some .none
  | .int i => some (.num i)
  | .str x => some (.text x)
  | .tup xs => (keyKs xs).map .tup
  | _ => none
def keyKs : List PV → Option (List NestedKey)
  | [] => some []
  | x :: xs => (keyK x).bind fun k => (keyKs xs).map fun ks => k :: ks
end
mutual
def pvK : NestedKey → PV
  | .none => .non
  | .num i => .int i
  | .text x => .str x
  | .tup ks => .tup (pvKs ks)
def pvKs : List NestedKey → List PV
  | [] => []
  | k :: ks => pvK k :: pvKs ks
end
theorem pvKs_map : ∀ ks : List NestedKey, pvKs ks = ks.map pvK
  | [] => rfl
  | k :: ks => by rw [pvKs, pvKs_map ks]; rfl
mutual
theorem pv_key : ∀ (x : PV) (k : NestedKey), keyK x = some k → pvK k = x ∧ x.dat = true ∧ x.toD = k.data
  | .non, k, h => by unfold keyK at h; cases h; exact ⟨rfl, rfl, rfl⟩
  | .int i, k, h => by unfold keyK at h; cases h; exact ⟨rfl, rfl, rfl⟩
  | .str x, k, h => by unfold keyK at h; cases h; exact ⟨rfl, rfl, rfl⟩
  | .tup xs, k, h => by
    unfold keyK at h
    cases e : keyKs xs with
    | none => rw [e] at h; cases h
    | some ks =>
      rw [e] at h
      cases h
      obtain ⟨a, b, c⟩ := pv_keys xs ks e
      refine ⟨by rw [pvK, a], by rw [PV.dat, b], by rw [PV.toD, c]; rfl⟩
  | .bl _, _, h => by unfold keyK at h; cases h
  | .lst _, _, h => by unfold keyK at h; cases h
  | .dic _ _, _, h => by unfold keyK at h; cases h
  | .ins _ _ _, _, h => by unfold keyK at h; cases h
  | .scr _, _, h => by unfold keyK at h; cases h
  | .ty _, _, h => by unfold keyK at h; cases h
  | .cl _, _, h => by unfold keyK at h; cases h
  | .ref _, _, h => by unfold keyK at h; cases h
theorem pv_keys : ∀ (xs : List PV) (ks : List NestedKey), keyKs xs = some ks → pvKs ks = xs ∧ PV.dats xs = true ∧ PV.toDs xs = NestedKey.datas ks
  | [], ks, h => by unfold keyKs at h; cases h; exact ⟨rfl, rfl, rfl⟩
  | x :: xs, ks, h => by
    unfold keyKs at h
    cases e : keyK x with
    | none => rw [e] at h; cases h
    | some k =>
      rw [e] at h
      cases e2 : keyKs xs with
      | none => rw [e2] at h; cases h
      | some ks2 =>
        rw [e2] at h
        cases h
        obtain ⟨a, b, c⟩ := pv_key x k e
        obtain ⟨a2, b2, c2⟩ := pv_keys xs ks2 e2
        exact ⟨by rw [pvKs, a, a2], by simp [PV.dats, b, b2], by rw [PV.toDs, c, c2]; rfl⟩
end
mutual
theorem eqv_key : ∀ x y : NestedKey, PyData.eqv x.data y.data = true → x = y
  | .none, y, h => by cases y <;> simp [NestedKey.data, PyData.eqv] at h ⊢
  | .num i, y, h => by cases y <;> simp [NestedKey.data, PyData.eqv] at h ⊢; exact h
  | .text x, y, h => by cases y <;> simp [NestedKey.data, PyData.eqv] at h ⊢; exact h
  | .tup xs, y, h => by
    cases y with
    | tup ys => simp only [NestedKey.data, PyData.eqv] at h; rw [eqv_keys xs ys h]
    | _ => simp [NestedKey.data, PyData.eqv] at h
theorem eqv_keys : ∀ xs ys : List NestedKey, PyData.eqvAll (NestedKey.datas xs) (NestedKey.datas ys) = true → xs = ys
  | [], [], _ => rfl
  | [], _ :: _, h => by simp [NestedKey.datas, PyData.eqvAll] at h
  | _ :: _, [], h => by simp [NestedKey.datas, PyData.eqvAll] at h
  | x :: xs, y :: ys, h => by
    simp only [NestedKey.datas, PyData.eqvAll, Bool.and_eq_true] at h
    rw [eqv_key x y h.1, eqv_keys xs ys h.2]
end
section
variable {X : Cx} {pins : List (Addr × Obj)} {σ : L2.St} {H : Hp} {s : Shared}
mutual
theorem key_of (I : L2.Inv X pins σ H s) : ∀ (k : NestedKey) (v : V) (u : Value), Dp X.K H v k.data → RelV v u → NestedIs s.heap k u ∧ Reads s.heap u k.data []
  | .none, _, _, h, r => by cases h; cases r; exact ⟨.none, .none⟩
  | .num i, _, _, h, r => by cases h; obtain ⟨t, rfl⟩ := r; exact ⟨.int i t, .int i t⟩
  | .text x, _, _, h, r => by cases h; obtain ⟨t, rfl⟩ := r; exact ⟨.text x t, .str x t⟩
  | .tup ks, v, u, h, r => by
    rw [NestedKey.data] at h ⊢
    cases h with
    | tup hs ha =>
      cases r
      obtain ⟨its, rv, ⟨o, ho, hc, n, hd⟩, _⟩ := I.tuple hs
      obtain ⟨q1, q2⟩ := keys_of I ks _ its ha rv
      exact ⟨.tup ho hc hd (by simpa using q1), .tuple ho hc hd (by simpa using q2)⟩
theorem keys_of (I : L2.Inv X pins σ H s) : ∀ (ks : List NestedKey) (vs : List V) (us : List Value), DpAll X.K H vs (NestedKey.datas ks) → Vals vs us → NestedAll s.heap ks us ∧ ReadsAll s.heap us (NestedKey.datas ks) []
  | [], _, _, h, r => by
    rw [NestedKey.datas] at h
    cases h; cases r; exact ⟨.nil, .nil⟩
  | k :: ks, _, _, h, r => by
    rw [NestedKey.datas] at h
    cases h with
    | cons h1 h2 =>
      cases r with
      | cons r1 r2 =>
        obtain ⟨a1, a2⟩ := key_of I k _ _ h1 r1
        obtain ⟨b1, b2⟩ := keys_of I ks _ _ h2 r2
        exact ⟨.cons a1 b1, .cons (as := []) (bs := []) a2 b2⟩
end
end
/-! ## one order -/
abbrev le (x y : NestedKey) : Bool := PySem.W.dataLe false NestedKey.data x y
theorem le_tot : PySem.W.TotalLe (PySem.W.dataLe (β := NestedKey) false NestedKey.data) := PySem.W.sortLe_total _ _ _
theorem le_anti {x y : NestedKey} (al : PySem.W.alike x.data y.data = true) (h1 : le x y = true) (h2 : le y x = true) : x = y := by
  have t : PySem.W.keyToks x.data = PySem.W.keyToks y.data := by
    have e1 : PyProof.Rows.lexLt itemOrd (PySem.W.keyToks y.data) (PySem.W.keyToks x.data) = false := by
      have z : (!PyProof.Rows.lexLt itemOrd (PySem.W.keyToks y.data) (PySem.W.keyToks x.data)) = true := h1
      simpa using z
    have e2 : PyProof.Rows.lexLt itemOrd (PySem.W.keyToks x.data) (PySem.W.keyToks y.data) = false := by
      have z : (!PyProof.Rows.lexLt itemOrd (PySem.W.keyToks x.data) (PySem.W.keyToks y.data)) = true := h2
      simpa using z
    exact lex_total _ _ e2 e1
  apply eqv_key
  cases e : PyData.eqv x.data y.data with
  | true => rfl
  | false =>
    exfalso
    have z := (PySem.W.toks_eqv _ _ al).2 e [] [.inl 0]
    rw [t, PySem.W.lex_pre, lex_irrefl] at z
    exact absurd z (by decide)
theorem short_perm {α : Type} {l m : List α} (h : l.Perm m) (hl : l.length ≤ 1) : l = m := by
  have e := h.length_eq
  match l, m, hl, e with
  | [], [], _, _ => rfl
  | [a], [b], _, _ => rw [List.singleton_perm_singleton.mp h]
theorem nodup_one {α : Type} {l : List α} (nd : l.Nodup) (h : ∀ a ∈ l, ∀ b ∈ l, a = b) : l.length ≤ 1 := by
  match l, nd, h with
  | [], _, _ => simp
  | [_], _, _ => simp
  | a :: b :: r, nd, h =>
    exfalso
    have e := h a (by simp) b (by simp)
    rw [List.nodup_cons] at nd
    exact nd.1 (by rw [e]; simp)
theorem sort_perm {l m : List NestedKey} (h : l.Perm m) (nd : l.Nodup) (al : ∀ x ∈ l, ∀ y ∈ l, PySem.W.alike x.data y.data = true) : l.mergeSort (PySem.W.dataLe false NestedKey.data) = m.mergeSort (PySem.W.dataLe false NestedKey.data) := by
  refine PySem.W.sort_unique le_tot (PySem.W.sort_pairwise le_tot l) fun c => ?_
  have pf : ((l.mergeSort (PySem.W.dataLe false NestedKey.data)).filter (PySem.W.sameRank (PySem.W.dataLe false NestedKey.data) c)).Perm (m.filter (PySem.W.sameRank (PySem.W.dataLe false NestedKey.data) c)) := ((List.mergeSort_perm l _).trans h).filter _
  refine short_perm pf (nodup_one ((((List.mergeSort_perm l _).nodup_iff).mpr nd).filter _) fun a ha b hb => ?_)
  obtain ⟨a1, a2⟩ := List.mem_filter.mp ha
  obtain ⟨b1, b2⟩ := List.mem_filter.mp hb
  unfold PySem.W.sameRank at a2 b2
  rw [Bool.and_eq_true] at a2 b2
  exact le_anti (al a ((List.mergeSort_perm l _).mem_iff.mp a1) b ((List.mergeSort_perm l _).mem_iff.mp b1)) (le_tot.trans _ _ _ a2.2 b2.1) (le_tot.trans _ _ _ b2.2 a2.1)
end NS
end Mn
end
section
set_option Elab.async false
set_option linter.all false
set_option maxRecDepth 100000
set_option maxHeartbeats 3200000
namespace Mn
namespace NS
open PySem PySem.Spec PyProof.Rows L2
/-! ## sorted(set) -/
theorem perm_map {α β : Type} (f : α → β) {vs ws : List β} (h : vs.Perm ws) : ∀ L : List α, ws = L.map f → ∃ L1 : List α, vs = L1.map f ∧ L1.Perm L := by
  induction h with
  | nil => exact fun L e => ⟨[], rfl, by cases L with | nil => exact .nil | cons a l => cases e⟩
  | cons x _ ih =>
    intro L e
    cases L with
    | nil => cases e
    | cons a l =>
      injection e with e1 e2
      obtain ⟨L1, q1, q2⟩ := ih l e2
      exact ⟨a :: L1, by rw [List.map_cons, q1, e1], q2.cons a⟩
  | swap x y l =>
    intro L e
    match L, e with
    | a :: b :: r, e =>
      injection e with e1 e2
      injection e2 with e2 e3
      exact ⟨b :: a :: r, by rw [List.map_cons, List.map_cons, e1, e2, e3], .swap ..⟩
  | trans _ _ ih1 ih2 =>
    intro L e
    obtain ⟨L2, q1, q2⟩ := ih2 L e
    obtain ⟨L1, r1, r2⟩ := ih1 L2 q1
    exact ⟨L1, r1, r2.trans q2⟩
abbrev rf (q : Ent) : Value := .ref q.1
abbrev srt (L : List Ent) : List Ent := L.mergeSort (PySem.W.dataLe false fun q => q.2.data)
section
variable {P : Program} {w : World} {A : Around} {E : Value → Shared → Prop} {s : Shared}
theorem each_ref : ∀ L : List Ent, PySem.W.EachIs (fun (v : Value) (b : Ent) => v = .ref b.1) (L.map rf) L
  | [] => .nil
  | p :: L => .cons rfl (each_ref L)
theorem of_each : ∀ {out : List Value} {L : List Ent}, PySem.W.EachIs (fun (v : Value) (b : Ent) => v = .ref b.1) out L → out = L.map rf
  | _, _, .nil => rfl
  | _, _, .cons e h => by rw [e, of_each h]; rfl
theorem each_rd {h : Heap} {a : Addr} : ∀ {L : List Ent}, (∀ p ∈ L, Reads h (.ref p.1) p.2.data []) → PySem.W.EachIs (fun v (b : Ent) => ∃ as, Reads h v b.2.data as ∧ a ∉ as) (L.map rf) L
  | [], _ => .nil
  | p :: L, q => .cons ⟨[], q p List.mem_cons_self, by simp⟩ (each_rd fun r hr => q r (List.mem_cons_of_mem _ hr))
theorem sorted_setN {a : Addr} {L : List Ent} {es : Array (Int × Value)} {ep : Nat} {t : SetTable} {Q : Value → Shared → Prop} (R : SetN w s.heap a L es ep t) (hh : A.handled = none) (hu : A.units + 200 < cLine) (rd : ∀ h' : Heap, (∀ b o, s.heap.get? b = some o → h'.get? b = some o) → ∀ p ∈ L, Reads h' (.ref p.1) p.2.data [])
    (al : ∀ p ∈ L, ∀ q ∈ L, PySem.W.alike p.2.data q.2.data = true) (so : ∀ p ∈ L, ∃ x r, p.2.data = .tuple (x :: r)) (dp : ∀ p ∈ L, p.2.data.depth ≤ 120)
    (hQ : ∀ s' p (out : Array Value) (c : Nat) (bs : List Ent), (∀ b o, s.heap.get? b = some o → s'.heap.get? b = some o) → s'.gens = s.gens → s'.os = s.os → s.heap.objs.size ≤ p → s'.heap.get? p = some (seqObj "list" out c) → out.toList = (srt bs).map rf → bs.Perm L → Q (.ref p) s') :
    wpAny (model P w) A (call (.builtin "sorted") [.ref a]) Q E s := by
  obtain ⟨o, ho, hex, hd⟩ := R.ob
  have sz := R.len
  have few := R.few
  refine Calls.call_function_entry kind_sorted plain_sorted entry_sorted (args_sorted1 _) ?_
  unfold Builtin.«sorted»
  refine wpAny_bind (m := checkCount "sorted" 1 1 _) (wpAny_pure ?_)
  refine wpAny_bind (collect_set (A := A.in1) hh ⟨o, ho, hex.1, hd⟩ R.fit (by unfold scanBound; omega) R.tab.ris R.led fun s1 vs k1 hz g1 o1 pm => ?_)
  have e2 : es.toList.map (·.2) = L.map rf := by rw [R.rows, ents, List.map_map]; rfl
  rw [e2] at pm
  obtain ⟨bs, rfl, pb⟩ := perm_map rf pm L rfl
  have bl : bs.length ≤ 4 := by rw [pb.length_eq]; exact few
  refine wpAny_bind (wpAny_newList ?_ (by rw [sizeLine_eq, List.length_map]; omega))
  have hoL : (s1.heap.push (seqObj "list" (bs.map rf).toArray 0)).get? s1.heap.objs.size = some (seqObj "list" (bs.map rf).toArray 0) := Heap.get?_push_size _ rfl
  refine wpAny_bind (wpAny_holding (PySem.W.list_sort_data (s := { s1 with heap := s1.heap.push (seqObj "list" (bs.map rf).toArray 0) }) (enc := fun q : Ent => q.2.data) hoL (each_ref bs) (each_rd fun p hp => rd _ (fun b o e => Heap.get?_push_of_some _ (k1 b o e)) p (pb.mem_iff.mp hp)) ?_ ?_ (by rw [sizeLine_eq]; omega) (fun b hb => by
    have := dp b (pb.mem_iff.mp hb)
    show A.units + 1 + 1 + _ < _
    omega) fun out ol eo => ?_))
  · intro d hd d' hd'
    obtain ⟨p, hp, rfl⟩ := List.mem_map.mp hd
    obtain ⟨q, hq, rfl⟩ := List.mem_map.mp hd'
    exact al p (pb.mem_iff.mp hp) q (pb.mem_iff.mp hq)
  · refine .inl fun d hd => ?_
    obtain ⟨p, hp, rfl⟩ := List.mem_map.mp hd
    exact so p (pb.mem_iff.mp hp)
  · obtain ⟨c, hc⟩ := sortedHeap_at (vs := bs.map rf) (out := out.toArray) hoL
    refine wpAny_pure ⟨_, rfl, hQ _ s1.heap.objs.size out.toArray c bs (fun b u e => ?_) g1 o1 hz hc (by simpa using of_each eo) pb⟩
    have q := k1 b u e
    have lt := Heap.lt_size q
    show (sortedHeap (s1.heap.push (seqObj "list" (bs.map rf).toArray 0)) s1.heap.objs.size (bs.map rf) out.toArray).get? b = some u
    rw [sortedHeap_old (Nat.ne_of_lt lt) (by rw [size_push']; exact Nat.lt_succ_of_lt lt)]
    exact Heap.get?_push_of_some _ q
end
/-! ## as rules of calls -/
structure SetN0 (w : World) (h : Heap) (a : Addr) (L : List Ent) : Prop where
  ex : ∃ (es : Array (Int × Value)) (ep : Nat) (t : SetTable), (∃ o, h.get? a = some o ∧ o.ExactSet ∧ o.data = .set es ep t) ∧ es.toList = ents w L ∧ TabOk t (hsh w L) ∧ (L.map (·.2)).Nodup ∧ (w.params.followText "set-order" = true ∨ t.led = true) ∧ t.mask = 7 ∧ L.length ≤ 4
def SetNO (w : World) (a : Addr) (L : List Ent) : HO := .ext fun h => SetN0 w h a L
theorem setNO_new {P : Program} {w : World} {H : Hp} {h : Heap} {a : Addr} {L : List Ent} {es : Array (Int × Value)} {ep : Nat} {t : SetTable} (R : SetN w h a L es ep t) : ObjOk P w H h a (SetNO w a L) := by
  obtain ⟨o, ho, r⟩ := R.ob
  refine ⟨⟨es, ep, t, R.ob, R.rows, R.tab, R.nd, R.led, R.m7, R.few⟩, ⟨o, ho⟩, fun h1 h2 p k => ?_⟩
  have ⟨es', ep', t', ⟨o', ho', r'⟩, q'⟩ := SetN0.ex p
  exact ⟨es', ep', t', ⟨o', k o' ho', r'⟩, q'⟩
section
variable {X : Cx}
def rSetN (K : PySem.W.Frag) (w : World) : List V → Hp → VK → Prop := fun xs H Q => ∃ (l : Addr) (ks : List Ent), xs = [V.ref l] ∧ SqL K H l (ks.map fun p => V.ref p.1) ∧ (∀ p ∈ ks, Dp K H (.ref p.1) p.2.data ∧ p.2.depth ≤ 8) ∧ Four ks ∧
  ∀ a L, H a = none → (∀ p ∈ L, p ∈ ks) → (∀ p ∈ ks, p.2 ∈ L.map (·.2)) → (L.map (·.2)).Nodup → Q (.ref a) (upd H a (SetNO w a L))
theorem refs_eq : ∀ {ks : List Ent} {us : List Value}, Vals (ks.map fun p => V.ref p.1) us → us = ks.map rf
  | [], _, .nil => rfl
  | p :: ks, _, .cons r t => by cases r; rw [refs_eq t]; rfl
theorem refs_vals : ∀ ks : List Ent, Vals (ks.map fun p => V.ref p.1) (ks.map rf)
  | [] => .nil
  | p :: ks => .cons rfl (refs_vals ks)
theorem cr_setN (hc : X.calm = true) (hu : X.A.units + 64 < cLine) : CallR X (.type "set") (rSetN X.K X.w) := by
  intro pins s σ H xs us Q I r ⟨l, ks, ex, hl, hk, f4, q⟩
  subst ex
  rw [Vals.ref1 r]
  obtain ⟨its, rv, pl, hz⟩ := I.list hl
  have hn : H s.heap.objs.size = none := I.hok.fresh (Nat.le_refl _)
  refine call_setN (P := X.prog) (w := X.w) ks (I.ok.hd hc) pl.isList (by simpa using refs_eq rv) (fun p hp => ⟨(key_of I p.2 _ _ (hk p hp).1 rfl).1, (hk p hp).2⟩) f4 (by omega) fun h' tk L es ep t R g k => ?_
  exact ⟨.ref s.heap.objs.size, upd H s.heap.objs.size (SetNO X.w s.heap.objs.size L), I.laid (t' := tk) k (Nat.le_refl _) (setNO_new R), rfl, q _ L hn g.sub (fun p hp => g.all p (by rw [List.take_length]; exact hp)) R.nd⟩
def rSortN (K : PySem.W.Frag) (w : World) : List V → Hp → VK → Prop := fun xs H Q => ∃ (a : Addr) (L : List Ent), xs = [V.ref a] ∧ H a = some (SetNO w a L) ∧ (∀ p ∈ L, Dp K H (.ref p.1) p.2.data ∧ p.2.depth ≤ 8) ∧ (∀ p ∈ L, ∀ q ∈ L, PySem.W.alike p.2.data q.2.data = true) ∧
  (∀ p ∈ L, ∃ x r, p.2.data = .tuple (x :: r)) ∧ (∀ p ∈ L, p.2.data.depth ≤ 120) ∧ ∀ (bs : List Ent) (p : Addr), bs.Perm L → bs.length ≤ 4 → H p = none → Q (.ref p) (upd H p (.lst ((srt bs).map fun q => V.ref q.1)))
theorem cr_sortN (hc : X.calm = true) (hu : X.A.units + 200 < cLine) : CallR X (.builtin "sorted") (rSortN X.K X.w) := by
  intro pins s σ H xs us Q I r ⟨a, L, ex, ha, hk, al, so, dp, q⟩
  subst ex
  have R0 : SetN0 X.w s.heap a L := (I.hok a _ ha).1
  obtain ⟨es, ep, t, h1, h2, h3, h4, h5, h6, h7⟩ := R0.ex
  have R : SetN X.w s.heap a L es ep t := ⟨h1, h2, h3, h4, fun p hp => ⟨(key_of I p.2 _ _ (hk p hp).1 rfl).1, (hk p hp).2⟩, h5, h6, h7⟩
  rw [Vals.ref1 r]
  refine sorted_setN R (I.ok.hd hc) hu (fun h' kp p hp => ?_) al so dp fun s' p out c bs k g o hp hg hout pm => ?_
  · exact PyProof.Rows.Reads.keeps kp (key_of I p.2 _ _ (hk p hp).1 rfl).2
  · have bl : bs.length ≤ 4 := by rw [pm.length_eq]; exact h7
    have sl : (srt bs).length ≤ 4 := by rw [List.length_mergeSort]; exact bl
    have hn : H p = none := I.hok.fresh hp
    have hv : Vals ((srt bs).map fun q => V.ref q.1) out.toList := by rw [hout]; exact refs_vals _
    have J : L2.Inv X pins σ (upd H p (.lst ((srt bs).map fun q => V.ref q.1))) { s with heap := s'.heap, gens := s'.gens, drawn := s'.drawn, toks := s'.toks } :=
      I.call (ch := []) (Un.laid k hp hn) (I.hok.laid k hp ⟨by rw [List.length_map, sizeLine_eq]; omega, out.toList, c, hv, hg⟩) (by rw [g]; exact I.bare) (fun _ z => nomatch z)
    have e : s' = { s with heap := s'.heap, gens := s'.gens, drawn := s'.drawn, toks := s'.toks } := by
      cases s'; cases s; cases o; rfl
    rw [e]
    exact ⟨.ref p, _, J, rfl, q bs p pm bl hn⟩
end
end NS
end Mn
end
section
set_option Elab.async false
set_option linter.all false
set_option maxRecDepth 100000
set_option maxHeartbeats 3200000
namespace Mn
open PySem PySem.Spec PyProof.Rows L2 NS
/-! ## sorted(set(list of keys)) -/
def dist (ks : List NestedKey) : List NestedKey := ks.foldr (fun k r => if k ∈ r then r else k :: r) []
theorem dist_mem {k : NestedKey} : ∀ ks : List NestedKey, k ∈ dist ks ↔ k ∈ ks
  | [] => Iff.rfl
  | x :: ks => by
    have ih := dist_mem (k := k) ks
    show k ∈ (if x ∈ dist ks then dist ks else x :: dist ks) ↔ _
    split
    · rename_i hx
      rw [ih, List.mem_cons]
      exact ⟨.inr, fun h => h.elim (fun e => by rw [e]; exact (dist_mem ks).mp hx) id⟩
    · rw [List.mem_cons, List.mem_cons, ih]
theorem dist_nodup : ∀ ks : List NestedKey, (dist ks).Nodup
  | [] => List.nodup_nil
  | x :: ks => by
    show (if x ∈ dist ks then dist ks else x :: dist ks).Nodup
    split
    · exact dist_nodup ks
    · rename_i hx
      exact List.nodup_cons.mpr ⟨hx, dist_nodup ks⟩
theorem sub_len : ∀ (M D : List NestedKey), M.Nodup → (∀ k ∈ M, k ∈ D) → M.length ≤ D.length
  | [], D, _, _ => Nat.zero_le _
  | x :: M, D, nd, hs => by
    obtain ⟨n1, n2⟩ := List.nodup_cons.mp nd
    have hx := hs x List.mem_cons_self
    have z := sub_len M (D.erase x) n2 fun k hk => (List.mem_erase_of_ne (fun e => n1 (by rw [← e]; exact hk))).mpr (hs k (List.mem_cons_of_mem _ hk))
    rw [List.length_erase_of_mem hx] at z
    have := List.length_pos_of_mem hx
    rw [List.length_cons]
    omega
def isTup : NestedKey → Bool
  | .tup (_ :: _) => true
  | _ => false
def setOk (kd : List NestedKey) : Bool := Nat.ble kd.length 4 && (kd.all fun k => isTup k && Nat.ble k.depth 8 && Nat.ble k.data.depth 120) && kd.all fun k => kd.all fun q => PySem.W.alike k.data q.data
def fSrtSet : List PV → Nat → AH → R PV := fun xs b h => match xs with
  | [x] => (match lstOf h x with
    | some ys => (match keyKs ys with
      | some ks => if setOk (dist ks) = true then .ok (.lst (((dist ks).mergeSort (PySem.W.dataLe false NestedKey.data)).map pvK)) h else .bad
      | none => .bad)
    | none => .bad)
  | _ => .bad
section
variable {T : Tt} {B : List Nat} {b : Nat} {ρ Z : List Addr} {h : AH} {H : Hp}
theorem ents_of : ∀ {ys : List PV} {vs : List V} {ks : List NestedKey}, repL T.cA T.K ρ Z H ys vs → keyKs ys = some ks → (∀ k ∈ ks, isTup k = true) → ∃ L : List Ent, vs = L.map (fun p => V.ref p.1) ∧ ks = L.map (·.2) ∧ ∀ p ∈ L, rep T.cA T.K ρ Z H (pvK p.2) (.ref p.1) ∧ Dp T.K H (.ref p.1) p.2.data
  | [], vs, ks, r, e, ht => by
    unfold repL at r
    unfold keyKs at e
    cases e
    exact ⟨[], r, rfl, fun p hp => by cases hp⟩
  | y :: ys, vs, ks, r, e, ht => by
    unfold repL at r
    obtain ⟨v, ws, rfl, r1, r2⟩ := r
    unfold keyKs at e
    cases e1 : keyK y with
    | none => rw [e1] at e; cases e
    | some k =>
      rw [e1] at e
      cases e2 : keyKs ys with
      | none => rw [e2] at e; cases e
      | some ks2 =>
        rw [e2] at e
        cases e
        obtain ⟨L, q1, q2, q3⟩ := ents_of r2 e2 fun k hk => ht k (List.mem_cons_of_mem _ hk)
        obtain ⟨p1, p2, p3⟩ := pv_key y k e1
        have tk := ht k List.mem_cons_self
        have d1 := rep_dp y v p2 r1
        rw [p3] at d1
        cases k with
        | tup ls =>
          have d2 := d1
          rw [NestedKey.data] at d2
          cases d2 with
          | @tup a xs _ hs ha =>
            refine ⟨(a, .tup ls) :: L, by rw [q1]; rfl, by rw [q2]; rfl, fun p hp => ?_⟩
            rcases List.mem_cons.mp hp with e | hp
            · rw [e]; exact ⟨by rw [p1]; exact r1, d1⟩
            · exact q3 p hp
        | _ => cases tk
theorem repL_of : ∀ {L : List Ent}, (∀ p ∈ L, rep T.cA T.K ρ Z H (pvK p.2) (.ref p.1)) → repL T.cA T.K ρ Z H (L.map fun p => pvK p.2) (L.map fun p => V.ref p.1)
  | [], _ => by unfold repL; rfl
  | p :: L, hp => by
    show repL _ _ _ _ _ (pvK p.2 :: _) _
    unfold repL
    exact ⟨_, _, rfl, hp p List.mem_cons_self, repL_of fun q hq => hp q (List.mem_cons_of_mem _ hq)⟩
mutual
theorem pvK_dat : ∀ k : NestedKey, (pvK k).dat = true ∧ (pvK k).toD = k.data
  | .none => ⟨rfl, rfl⟩
  | .num _ => ⟨rfl, rfl⟩
  | .text _ => ⟨rfl, rfl⟩
  | .tup ks => ⟨by rw [pvK, PV.dat, (pvKs_dat ks).1], by rw [pvK, PV.toD, (pvKs_dat ks).2]; rfl⟩
theorem pvKs_dat : ∀ ks : List NestedKey, PV.dats (pvKs ks) = true ∧ PV.toDs (pvKs ks) = NestedKey.datas ks
  | [] => ⟨rfl, rfl⟩
  | k :: ks => ⟨by simp [pvKs, PV.dats, (pvK_dat k).1, (pvKs_dat ks).1], by rw [pvKs, PV.toDs, (pvK_dat k).2, (pvKs_dat ks).2]; rfl⟩
end
theorem tup_data {k : NestedKey} (h : isTup k = true) : ∃ x r, k.data = .tuple (x :: r) := by
  cases k with
  | tup ks =>
    cases ks with
    | nil => cases h
    | cons k ks => exact ⟨k.data, NestedKey.datas ks, rfl⟩
  | _ => cases h
end
section
variable {T : Tt} {k : Nat} {N : List Str} {sc : Scope}
theorem se_sortSet {x y : Str} {e : Expr} {ds : Dn (List PV)} {p p2 pos pos2 : Pos} (hx : x = "sorted") (hy : y = "set") (hg : glB sc x = true) (hm : T.mg x = none) (hg2 : glB sc y = true) (hm2 : T.mg y = none) (ha : SA T k N sc [e] ds) (ns : notStar e = true) :
    SE T k N sc (.Call (.Name x p) [.Call (.Name y p2) [e] [] pos2] [] pos) (dOpL fSrtSet ds) := fun X W c tk => by
  subst hx hy
  have hu : X.A.units + 200 < cLine := c.un
  refine PEimp (pe_callB (cr_sortN c.calm hu) (c.gl _ hg) (by rw [c.hmg]; exact hm) (by decide +kernel) (pa_cons (pe_callTy (cr_setN c.calm (by omega)) (c.gl _ hg2) (by rw [c.hmg]; exact hm2) (by decide +kernel) (ha X W c tk) (by decide) (by decide) (starEach_cons ns) (backTo_plain rfl)) pa_nil)) fun σ H Q ⟨B, b, ρ, Z, h, env, G, er, p⟩ => ?_
  refine ⟨B, b, ρ, Z, h, env, G, er, postA.go .post p fun ρ1 H1 vs ws h1 n rs q => ?_⟩
  have p0 := (q.shift n).to0
  clear q
  match vs, rs, p0 with
  | [x], rs, p0 =>
    unfold repL at rs
    obtain ⟨v, ws', rfl, r1, r2⟩ := rs
    unfold repL at r2
    subst r2
    unfold fSrtSet at p0
    simp only at p0
    split at p0
    · rename_i ys hl
      split at p0
      · rename_i ks hk
        split at p0
        · rename_i ok
          obtain ⟨a, vs, rfl, hs, hz, rl⟩ := lstOf_rep n.good r1 hl
          unfold setOk at ok
          rw [Bool.and_eq_true, Bool.and_eq_true] at ok
          obtain ⟨⟨o1, o2⟩, o3⟩ := ok
          have o4 : ∀ k ∈ ks, isTup k = true ∧ k.depth ≤ 8 ∧ k.data.depth ≤ 120 := fun k hk => by
            have z := List.all_eq_true.mp o2 k ((dist_mem ks).mpr hk)
            simp only [Bool.and_eq_true, Nat.ble_eq] at z
            exact ⟨z.1.1, z.1.2, z.2⟩
          have o5 : ∀ k ∈ ks, ∀ q ∈ ks, PySem.W.alike k.data q.data = true := fun k hk q hq => List.all_eq_true.mp (List.all_eq_true.mp o3 k ((dist_mem ks).mpr hk)) q ((dist_mem ks).mpr hq)
          have o6 : (dist ks).length ≤ 4 := by simpa [Nat.ble_eq] using o1
          obtain ⟨L0, e1, e2, e3⟩ := ents_of rl hk fun k hk => (o4 k hk).1
          have inks : ∀ q ∈ L0, q.2 ∈ ks := fun q hq => by rw [e2]; exact List.mem_map.mpr ⟨q, hq, rfl⟩
          refine ⟨a, L0, rfl, by rw [← e1]; exact .inl (.inl hs), fun q hq => ⟨by rw [c.hK]; exact (e3 q hq).2, (o4 _ (inks q hq)).2.1⟩, fun M nd hM => Nat.le_trans (sub_len M (dist ks) nd fun k hk' => (dist_mem ks).mpr (by rw [e2]; exact hM k hk')) o6, fun a' L hn sub all nd => ?_⟩
          have n2 := n.good.new (o := SetNO X.w a' L) hn
          refine ⟨a', L, rfl, by unfold upd; rw [if_pos rfl], fun q hq => ⟨by rw [c.hK]; have z := e3 q (sub q hq); exact (by
            have d := rep_dp _ _ (pvK_dat q.2).1 (n2.rep n.good z.1)
            rw [(pvK_dat q.2).2] at d
            exact d), (o4 _ (inks q (sub q hq))).2.1⟩, fun q hq r hr => o5 _ (inks q (sub q hq)) _ (inks r (sub r hr)), fun q hq => tup_data (o4 _ (inks q (sub q hq))).1, fun q hq => (o4 _ (inks q (sub q hq))).2.2, fun bs p' pm bl hp => ?_⟩
          have sl : ((srt bs).map fun q => pvK q.2).length ≤ sizeLine := by rw [List.length_map, List.length_mergeSort, sizeLine_eq]; omega
          have es : (srt bs).map (fun q => pvK q.2) = ((dist ks).mergeSort (PySem.W.dataLe false NestedKey.data)).map pvK := by
            have q1 : (srt bs).map (·.2) = (bs.map (·.2)).mergeSort (PySem.W.dataLe false NestedKey.data) := PySem.W.sort_maps (fun q : Ent => q.2) fun _ _ _ _ => rfl
            have pk : (bs.map (·.2)).Perm (dist ks) := by
              refine (List.perm_ext_iff_of_nodup (((pm.map (·.2)).nodup_iff).mpr nd) (dist_nodup ks)).mpr fun k => ?_
              rw [(pm.map (·.2)).mem_iff, dist_mem]
              refine ⟨fun hk => ?_, fun hk => ?_⟩
              · obtain ⟨q, hq, e⟩ := List.mem_map.mp hk
                rw [← e]; exact inks q (sub q hq)
              · rw [e2] at hk
                obtain ⟨q, hq, e⟩ := List.mem_map.mp hk
                rw [← e]; exact all q hq
            rw [show (srt bs).map (fun q => pvK q.2) = ((srt bs).map (·.2)).map pvK by rw [List.map_map]; rfl, q1, sort_perm pk (((pm.map (·.2)).nodup_iff).mpr nd) fun x hx y hy => ?_]
            have i1 := (dist_mem ks).mp (pk.mem_iff.mp hx)
            have i2 := (dist_mem ks).mp (pk.mem_iff.mp hy)
            exact o5 _ i1 _ i2
          refine mkL_ok (m := false) (xs := (srt bs).map fun q => pvK q.2) sl n2.good hp (repL_of fun q hq => n2.rep n.good (e3 q (sub q (pm.mem_iff.mp ((List.mergeSort_perm bs _).mem_iff.mp hq)))).1) ?_
          rw [es]
          exact p0.shift n2
        · exact p0.elim
      · exact p0.elim
    · exact p0.elim
end
end Mn
end
section
set_option Elab.async false
set_option linter.all false
set_option maxRecDepth 100000
namespace Mn
open PySem

/-! ## what an answer has to keep -/
def R.sat {α : Type} (r : R α) (Q : α → AH → Prop) : Prop := match r with
  | .ok a h => Q a h
  | _ => False
def SR.sat (r : SR) (N : EnvP → AH → Prop) (V : PV → AH → Prop) : Prop := match r with
  | .nx e h => N e h
  | .rt v h => V v h
  | _ => False
theorem R.sat.ex {α : Type} {r : R α} {Q : α → AH → Prop} (s : r.sat Q) : ∃ a h, r = .ok a h ∧ Q a h := by
  cases r with
  | ok a h => exact ⟨a, h, rfl, s⟩
  | exc => exact s.elim
  | bad => exact s.elim
theorem R.sat.mono {α : Type} {r : R α} {Q Q' : α → AH → Prop} (s : r.sat Q) (f : ∀ a h, Q a h → Q' a h) : r.sat Q' := by
  cases r with
  | ok a h => exact f a h s
  | exc => exact s.elim
  | bad => exact s.elim
theorem R.sat.and {α : Type} {r : R α} {Q Q' : α → AH → Prop} (s : r.sat Q) (s' : r.sat Q') : r.sat fun a h => Q a h ∧ Q' a h := by
  cases r with
  | ok a h => exact ⟨s, s'⟩
  | exc => exact s.elim
  | bad => exact s.elim
theorem SR.sat.mono {r : SR} {N N' : EnvP → AH → Prop} {V V' : PV → AH → Prop} (s : r.sat N V) (f : ∀ e h, N e h → N' e h) (g : ∀ v h, V v h → V' v h) : r.sat N' V' := by
  cases r with
  | nx e h => exact f e h s
  | rt v h => exact g v h s
  | _ => exact s.elim
section
variable {α β : Type} {Q : α → AH → Prop} {N : EnvP → AH → Prop} {V : PV → AH → Prop} {env : EnvP} {b : Nat} {h : AH} {P : PV → AH → Prop}
theorem sat_ok (a : α) : (R.ok a h).sat Q ↔ Q a h := Iff.rfl
theorem sat_bad : (R.bad : R α).sat Q ↔ False := Iff.rfl
theorem sat_bind (r : R β) (f : β → AH → R α) : (r.bind f).sat Q ↔ r.sat fun a h => (f a h).sat Q := by cases r <;> exact Iff.rfl
theorem sat_ite (c : Prop) [Decidable c] (r r' : R α) : (if c then r else r').sat Q ↔ if c then r.sat Q else r'.sat Q := by split <;> exact Iff.rfl
theorem sat_noExc (r : R PV) : (noExc r).sat P ↔ r.sat P := by cases r <;> exact Iff.rfl
theorem sat_then (r : R α) (f : α → AH → SR) : (r.then env f).sat N V ↔ r.sat fun a h => (f a h).sat N V := by cases r <;> exact Iff.rfl
theorem sat_andThen (r : SR) (f : EnvP → AH → SR) : (r.andThen f).sat N V ↔ r.sat (fun e h => (f e h).sat N V) V := by cases r <;> exact Iff.rfl
theorem sat_nx (e : EnvP) : (SR.nx e h).sat N V ↔ N e h := Iff.rfl
theorem sat_rt (v : PV) : (SR.rt v h).sat N V ↔ V v h := Iff.rfl
theorem sat_sbad : SR.bad.sat N V ↔ False := Iff.rfl
theorem sat_site (c : Prop) [Decidable c] (r r' : SR) : (if c then r else r').sat N V ↔ if c then r.sat N V else r'.sat N V := by split <;> exact Iff.rfl
theorem szOk_le {n : Nat} : szOk n = true ↔ n ≤ 16777216 := by unfold szOk; rw [Nat.ble_eq]
/-! expressions -/
theorem sat_var (i : Nat) : (dVar i env b h).sat P ↔ ∃ v, env[i]? = some (some v) ∧ P v h := by
  unfold dVar
  split
  · rename_i v e; rw [e]; exact ⟨fun q => ⟨v, rfl, q⟩, fun ⟨w, e, q⟩ => by cases e; exact q⟩
  · rename_i ne
    exact ⟨fun q => q.elim, fun ⟨w, e, q⟩ => (ne w e).elim⟩
theorem sat_C (v : PV) : (dC v env b h).sat P ↔ P v h := Iff.rfl
theorem sat_nil {A : List PV → AH → Prop} : (dNil env b h).sat A ↔ A [] h := Iff.rfl
theorem sat_cons {A : List PV → AH → Prop} (d : Dn PV) (ds : Dn (List PV)) : (dCons d ds env b h).sat A ↔ (d env b h).sat fun x h1 => (ds env b h1).sat fun xs h2 => A (x :: xs) h2 := by
  unfold dCons; simp only [sat_bind, sat_ok]
theorem sat_tup (ds : Dn (List PV)) : (dTup ds env b h).sat P ↔ (ds env b h).sat fun xs h1 => xs.length ≤ 16777216 ∧ P (.tup xs) h1 := by
  unfold dTup; simp only [sat_bind]
  apply iff_of_eq; congr; funext xs h1; rw [← szOk_le]; by_cases z : szOk xs.length = true <;> simp [z, R.sat]
theorem sat_mkL (m : Bool) (xs : List PV) : (mkL m xs h).sat P ↔ if m = true then P (.ref h.length) (h ++ [.lst xs]) else P (.lst xs) h := by
  unfold mkL; cases m <;> exact Iff.rfl
theorem sat_lst (m : Bool) (ds : Dn (List PV)) : (dLst m ds env b h).sat P ↔ (ds env b h).sat fun xs h1 => xs.length ≤ 16777216 ∧ (mkL m xs h1).sat P := by
  unfold dLst; simp only [sat_bind]
  apply iff_of_eq; congr; funext xs h1; rw [← szOk_le]; by_cases z : szOk xs.length = true <;> simp [z, R.sat]
theorem sat_op2 (f : PV → PV → Nat → AH → R PV) (da db : Dn PV) : (dOp2 f da db env b h).sat P ↔ (da env b h).sat fun x h1 => (db env b h1).sat fun y h2 => (f x y b h2).sat P := by
  unfold dOp2; simp only [sat_bind, sat_noExc]
theorem sat_opL (f : List PV → Nat → AH → R PV) (ds : Dn (List PV)) : (dOpL f ds env b h).sat P ↔ (ds env b h).sat fun xs h1 => (f xs b h1).sat P := by
  unfold dOpL; simp only [sat_bind, sat_noExc]
theorem sat_call (fn : Fn) (np : Nat) (dfl : List PV) (ds : Dn (List PV)) : (dCall fn np dfl ds env b h).sat P ↔ (ds env b h).sat fun xs h1 => xs.length + dfl.length = np ∧ (fn (xs ++ dfl) b h1).sat P := by
  unfold dCall; simp only [sat_bind]
  apply iff_of_eq; congr; funext xs h1; by_cases z : xs.length + dfl.length = np <;> simp [z, R.sat]
theorem sat_att (f : Str) (ok : Str → Bool) (d : Dn PV) : (dAtt f ok d env b h).sat P ↔ (d env b h).sat fun x h1 => ∃ c fs vs v, clsOf h1 x = some (c, fs, vs) ∧ ok c = true ∧ fldAt fs vs f = some v ∧ P v h1 := by
  unfold dAtt; simp only [sat_bind]
  apply iff_of_eq; congr; funext x h1
  apply propext
  cases e : clsOf h1 x with
  | none => simp [R.sat]
  | some q =>
    obtain ⟨c, fs, vs⟩ := q
    simp only
    by_cases z : ok c = true
    · simp only [z, if_true]
      cases e2 : fldAt fs vs f with
      | none => simp only [sat_bad]; constructor
                · exact fun q => q.elim
                · rintro ⟨c', fs', vs', v, e', _, e3, _⟩; cases e'; rw [e2] at e3; cases e3
      | some v => simp only [sat_ok]; constructor
                  · exact fun q => ⟨c, fs, vs, v, rfl, z, e2, q⟩
                  · rintro ⟨c', fs', vs', v', e', _, e3, q⟩; cases e'; rw [e2] at e3; cases e3; exact q
    · simp only [z, if_false]
      constructor
      · exact fun q => q.elim
      · rintro ⟨c', fs', vs', v, e', z', _⟩; cases e'; exact (z z').elim
theorem sat_meth (m : Str) (tab : Str → Option (Nat × Fn)) (d : Dn PV) (ds : Dn (List PV)) : (dMeth m tab d ds env b h).sat P ↔ (d env b h).sat fun x h1 => ∃ c fs vs np fn, clsOf h1 x = some (c, fs, vs) ∧ m ∉ fs ∧ tab c = some (np, fn) ∧ (ds env b h1).sat fun xs h2 => xs.length + 1 = np ∧ (fn (x :: xs) b h2).sat P := by
  unfold dMeth; simp only [sat_bind]
  apply iff_of_eq; congr; funext x h1
  apply propext
  cases e : clsOf h1 x with
  | none => simp [R.sat]
  | some q =>
    obtain ⟨c, fs, vs⟩ := q
    simp only
    by_cases z : m ∈ fs
    · simp only [z, if_true]
      constructor
      · exact fun q => q.elim
      · rintro ⟨c', fs', vs', np, fn, e', z', _⟩; cases e'; exact (z' z).elim
    · simp only [z, if_false]
      cases e2 : tab c with
      | none => simp only [sat_bad]; constructor
                · exact fun q => q.elim
                · rintro ⟨c', fs', vs', np, fn, e', _, e3, _⟩; cases e'; rw [e2] at e3; cases e3
      | some q =>
        obtain ⟨np, fn⟩ := q
        simp only [sat_bind]
        have key : ∀ (np : Nat) (fn : Fn), ((ds env b h1).sat fun xs h2 => (if xs.length + 1 = np then fn (x :: xs) b h2 else R.bad).sat P) ↔ ((ds env b h1).sat fun xs h2 => xs.length + 1 = np ∧ (fn (x :: xs) b h2).sat P) := fun np fn => by
          apply iff_of_eq; congr; funext xs h2; by_cases z : xs.length + 1 = np <;> simp [z, R.sat]
        constructor
        · exact fun q => ⟨c, fs, vs, np, fn, rfl, z, e2, (key np fn).mp q⟩
        · rintro ⟨c', fs', vs', np', fn', e', _, e3, q⟩; cases e'; rw [e2] at e3; cases e3; exact (key np fn).mpr q
/-! tests -/
variable {B : Bool → AH → Prop}
theorem sat_tv (d : Dn PV) : (dTv d env b h).sat B ↔ (d env b h).sat fun x h1 => ∃ t, x = .bl t ∧ B t h1 := by
  unfold dTv; simp only [sat_bind]
  apply iff_of_eq; congr; funext x h1; cases x <;> simp [R.sat]
theorem sat_and (c d : Dn Bool) : (dAnd c d env b h).sat B ↔ (c env b h).sat fun t h1 => if t = true then (d env b h1).sat B else B false h1 := by
  unfold dAnd; simp only [sat_bind, sat_ite, sat_ok]
theorem sat_or (c d : Dn Bool) : (dOr c d env b h).sat B ↔ (c env b h).sat fun t h1 => if t = true then B true h1 else (d env b h1).sat B := by
  unfold dOr; simp only [sat_bind, sat_ite, sat_ok]
theorem sat_not (c : Dn Bool) : (dNot c env b h).sat B ↔ (c env b h).sat fun t h1 => B (!t) h1 := by
  unfold dNot; simp only [sat_bind, sat_ok]
theorem sat_yes : (dYes env b h).sat B ↔ B true h := Iff.rfl
theorem sat_andV (c d : Dn PV) : (dAndV c d env b h).sat P ↔ (c env b h).sat fun x h1 => ∃ t, x = .bl t ∧ if t = true then (d env b h1).sat P else P (.bl false) h1 := by
  unfold dAndV; simp only [sat_bind]
  apply iff_of_eq; congr; funext x h1
  cases x with
  | bl t => cases t <;> simp [R.sat]
  | _ => simp [R.sat]
theorem sat_orV (c d : Dn PV) : (dOrV c d env b h).sat P ↔ (c env b h).sat fun x h1 => ∃ t, x = .bl t ∧ if t = true then P (.bl true) h1 else (d env b h1).sat P := by
  unfold dOrV; simp only [sat_bind]
  apply iff_of_eq; congr; funext x h1
  cases x with
  | bl t => cases t <;> simp [R.sat]
  | _ => simp [R.sat]
theorem sat_notV (c : Dn PV) : (dNotV c env b h).sat P ↔ (c env b h).sat fun x h1 => ∃ t, x = .bl t ∧ P (.bl (!t)) h1 := by
  unfold dNotV; simp only [sat_bind]
  apply iff_of_eq; congr; funext x h1; cases x <;> simp [R.sat]
theorem sat_ifE (c : Dn Bool) (d1 d2 : Dn PV) : (dIfE c d1 d2 env b h).sat P ↔ (c env b h).sat fun t h1 => if t = true then (d1 env b h1).sat P else (d2 env b h1).sat P := by
  unfold dIfE; simp only [sat_bind, sat_ite]
/-! statements -/
theorem sat_seq (d1 d2 : Ds) : (dSeq d1 d2 env b h).sat N V ↔ (d1 env b h).sat (fun e h1 => (d2 e b h1).sat N V) V := by unfold dSeq; simp only [sat_andThen]
theorem sat_dnx : (dNx env b h).sat N V ↔ N env h := Iff.rfl
theorem sat_ret (d : Dn PV) : (dRet d env b h).sat N V ↔ (d env b h).sat V := by unfold dRet; simp only [sat_then, sat_rt]
theorem sat_retN : (dRetN env b h).sat N V ↔ V .non h := Iff.rfl
theorem sat_exp (d : Dn PV) : (dExp d env b h).sat N V ↔ (d env b h).sat fun _ h1 => N env h1 := by unfold dExp; simp only [sat_then, sat_nx]
theorem sat_set (i : Nat) (d : Dn PV) : (dSet i d env b h).sat N V ↔ (d env b h).sat fun v h1 => N (env.set i (some v)) h1 := by unfold dSet; simp only [sat_then, sat_nx]
theorem sat_if (c : Dn Bool) (d1 d2 : Ds) : (dIf c d1 d2 env b h).sat N V ↔ (c env b h).sat fun t h1 => if t = true then (d1 env b h1).sat N V else (d2 env b h1).sat N V := by unfold dIf; simp only [sat_then, sat_site]
theorem sat_never : (dBad env b h).sat N V ↔ False := Iff.rfl
theorem sat_unp (g : Dg) (d : Dn PV) : (dUnp g d env b h).sat N V ↔ (d env b h).sat fun v h1 => ∃ e, g v env h1 = some e ∧ N e h1 := by
  unfold dUnp; simp only [sat_then]
  apply iff_of_eq; congr; funext v h1; cases g v env h1 <;> simp [SR.sat]
theorem sat_lset (dv dx di : Dn PV) : (dLset dv dx di env b h).sat N V ↔ (dv env b h).sat fun v h1 => (dx env b h1).sat fun x h2 => (di env b h2).sat fun i h3 => ∃ h4, lsetP b h3 x i v = some h4 ∧ N env h4 := by
  unfold dLset; simp only [sat_then]
  apply iff_of_eq; congr; funext v h1; congr; funext x h2; congr; funext i h3; cases lsetP b h3 x i v <;> simp [SR.sat]
theorem sat_dput (dv dx di : Dn PV) : (dDput dv dx di env b h).sat N V ↔ (dv env b h).sat fun v h1 => (dx env b h1).sat fun x h2 => (di env b h2).sat fun i h3 => ∃ h4, dputP b h3 x i v = some h4 ∧ N env h4 := by
  unfold dDput; simp only [sat_then]
  apply iff_of_eq; congr; funext v h1; congr; funext x h2; congr; funext i h3; cases dputP b h3 x i v <;> simp [SR.sat]
theorem sat_fset (f : Str) (ok : Str → Bool) (dv dx : Dn PV) : (dFset f ok dv dx env b h).sat N V ↔ (dv env b h).sat fun v h1 => (dx env b h1).sat fun x h2 => ∃ h4, fsetP f ok b h2 x v = some h4 ∧ N env h4 := by
  unfold dFset; simp only [sat_then]
  apply iff_of_eq; congr; funext v h1; congr; funext x h2; cases fsetP f ok b h2 x v <;> simp [SR.sat]
theorem sat_aug (i : Nat) (d : Dn PV) : (dAug i d env b h).sat N V ↔ ∃ n, env[i]? = some (some (.int n)) ∧ (d env b h).sat fun v h1 => ∃ m, v = .int m ∧ N (env.set i (some (.int (n + m)))) h1 := by
  unfold dAug
  split
  · rename_i n e
    rw [e]
    simp only [sat_then]
    have key : ((d env b h).sat fun a h => ((match a with | .int m => SR.nx (env.set i (some (.int (n + m)))) h | _ => .bad) : SR).sat N V) ↔ ((d env b h).sat fun v h1 => ∃ m, v = .int m ∧ N (env.set i (some (.int (n + m)))) h1) := by
      apply iff_of_eq; congr; funext v h1; cases v <;> simp [SR.sat]
    exact ⟨fun q => ⟨n, rfl, key.mp q⟩, fun ⟨n', e', q⟩ => by cases e'; exact key.mpr q⟩
  · rename_i ne
    exact ⟨fun q => q.elim, fun ⟨n, e, q⟩ => (ne n e).elim⟩
theorem sat_for (di : Dn ItP) (g : Dg) (body : Ds) : (dFor di g body env b h).sat N V ↔ (di env b h).sat fun it h1 => (dForL g body it it.n 0 env b h1).sat N V := by unfold dFor; simp only [sat_then]
/-! functions -/
def PopS (n : Nat) (v : PV) (h : AH) (Q : PV → AH → Prop) : Prop := (popR n (.ok v h)).sat Q
theorem popS_same {n : Nat} {v : PV} (e : h.length = n) : PopS n v h P ↔ P v h := by unfold PopS popR; simp only [e, if_true]; exact Iff.rfl
theorem popS_low {n : Nat} {v : PV} (e : v.low n = true) (hn : n ≤ h.length) : PopS n v h P ↔ P v (h.take n) := by
  unfold PopS popR
  by_cases z : h.length = n
  · simp only [z, if_true]; rw [← z, List.take_length]; exact Iff.rfl
  · have : rz 8 h n v = some v := by unfold rz; simp [e]
    simp only [z, if_false, this]; exact Iff.rfl
theorem popS_rz {n : Nat} {v v' : PV} (z : h.length ≠ n) (e : rz 8 h n v = some v') : PopS n v h P ↔ P v' (h.take n) := by
  unfold PopS popR
  simp only [z, if_false, e]; exact Iff.rfl
theorem sat_fn (n : Nat) (d : Ds) (args : List PV) : (mkFn true n d args b h).sat P ↔ (d (fnE n args) h.length h).sat (fun _ h1 => PopS h.length .non h1 P) (fun v h1 => PopS h.length v h1 P) := by
  unfold mkFn PopS
  simp only [if_true]
  cases d (fnE n args) h.length h with
  | exc fr c as e h1 =>
    show (R.sat (if as.isEmpty = true then R.exc fr c [] (h1.take h.length) else .bad) P) ↔ False
    split <;> exact Iff.rfl
  | _ => exact Iff.rfl
theorem sat_fn0 (n : Nat) (d : Ds) (args : List PV) : (mkFn false n d args b h).sat P ↔ (d (fnE n args) b h).sat (fun _ h1 => P .non h1) P := by
  unfold mkFn
  simp only [Bool.false_eq_true, if_false]
  cases d (fnE n args) b h <;> exact Iff.rfl
end
end Mn
end
section
set_option Elab.async false
set_option linter.all false
set_option maxRecDepth 100000
namespace Mn
open PySem
section
variable {N : EnvP → AH → Prop} {V : PV → AH → Prop} {env : EnvP} {b : Nat} {h : AH} {P : PV → AH → Prop} {B : Bool → AH → Prop}
/-! ## loops -/
theorem forL_sat (g : Dg) (body : Ds) (it : ItP) (I : Nat → EnvP → AH → Prop) (turn : ∀ i env h, i < it.n → I i env h → ∃ x env1, it.get h i = some x ∧ g x env h = some env1 ∧ (body env1 b h).sat (I (i + 1)) V) (fin : ∀ env h, I it.n env h → it.fin h = true ∧ N env h) :
    ∀ (m i : Nat) (env : EnvP) (h : AH), m + i = it.n → I i env h → (dForL g body it m i env b h).sat N V
  | 0, i, env, h, e, q => by
    obtain rfl : i = it.n := by omega
    obtain ⟨f1, f2⟩ := fin env h q
    unfold dForL
    rw [if_pos f1]
    exact f2
  | m + 1, i, env, h, e, q => by
    obtain ⟨x, env1, e1, e2, s⟩ := turn i env h (by omega) q
    unfold dForL
    rw [e1]
    simp only [e2]
    have ih := forL_sat g body it I turn fin m (i + 1)
    cases r : body env1 b h with
    | nx e3 h3 => rw [r] at s; exact ih e3 h3 (by omega) s
    | rt v h3 => rw [r] at s; exact s
    | bk => rw [r] at s; exact s.elim
    | ct => rw [r] at s; exact s.elim
    | exc => rw [r] at s; exact s.elim
    | bad => rw [r] at s; exact s.elim
theorem while_sat (c : Dn Bool) (body : Ds) (I : Nat → EnvP → AH → Prop) (turn : ∀ k env h, I k env h → (c env b h).sat fun t h1 => if t = true then ∃ j, k = j + 1 ∧ (body env b h1).sat (I j) V else N env h1) :
    ∀ (m k : Nat) (env : EnvP) (h : AH), k < m → I k env h → (dWhile c body m env b h).sat N V
  | 0, k, env, h, e, q => absurd e (Nat.not_lt_zero _)
  | m + 1, k, env, h, e, q => by
    have s := turn k env h q
    unfold dWhile
    rw [sat_then]
    refine s.mono fun t h1 z => ?_
    cases t with
    | false => exact z
    | true =>
      simp only [if_true] at z ⊢
      obtain ⟨j, rfl, z⟩ := z
      have ih := while_sat c body I turn m j
      cases r : body env b h1 with
      | nx e3 h3 => rw [r] at z; exact ih e3 h3 (by omega) z
      | rt v h3 => rw [r] at z; exact z
      | bk => rw [r] at z; exact z.elim
      | ct => rw [r] at z; exact z.elim
      | exc => rw [r] at z; exact z.elim
      | bad => rw [r] at z; exact z.elim
theorem compL_sat (g : Dg) (c : Dn Bool) (elt : Dn PV) (it : ItP) {L : List PV → AH → Prop} (J : Nat → List PV → AH → Prop)
    (turn : ∀ i acc h, i < it.n → J i acc h → ∃ x env1, it.get h i = some x ∧ g x env h = some env1 ∧ (c env1 b h).sat fun t h1 => if t = true then (elt env1 b h1).sat fun y h2 => J (i + 1) (acc ++ [y]) h2 else J (i + 1) acc h1)
    (fin : ∀ acc h, J it.n acc h → it.fin h = true ∧ L acc h) : ∀ (m i : Nat) (acc : List PV) (h : AH), m + i = it.n → J i acc h → (dCompL g c elt it m i env b h acc).sat L
  | 0, i, acc, h, e, q => by
    obtain rfl : i = it.n := by omega
    obtain ⟨f1, f2⟩ := fin acc h q
    unfold dCompL
    rw [if_pos f1]
    exact f2
  | m + 1, i, acc, h, e, q => by
    obtain ⟨x, env1, e1, e2, s⟩ := turn i acc h (by omega) q
    have ih := compL_sat g c elt it J turn fin m (i + 1)
    unfold dCompL
    rw [e1]
    simp only [e2]
    cases r : c env1 b h with
    | ok t h1 =>
      rw [r] at s
      cases t with
      | false => exact ih acc h1 (by omega) s
      | true =>
        have s2 : (elt env1 b h1).sat fun y h2 => J (i + 1) (acc ++ [y]) h2 := s
        simp only
        cases r2 : elt env1 b h1 with
        | ok y h2 => rw [r2] at s2; exact ih (acc ++ [y]) h2 (by omega) s2
        | exc => rw [r2] at s2; exact s2.elim
        | bad => rw [r2] at s2; exact s2.elim
    | exc => rw [r] at s; exact s.elim
    | bad => rw [r] at s; exact s.elim
theorem sat_comp (mu : Bool) (vs : List Nat) (di : Dn ItP) (g : Dg) (c : Dn Bool) (elt : Dn PV) : (dComp mu vs di g c elt env b h).sat P ↔ (di env b h).sat fun it h1 => (dCompL g c elt it it.n 0 (wipeE env vs) b h1 []).sat fun xs h2 => (mkL mu xs h2).sat P := by
  unfold dComp; simp only [sat_bind]
/-- over a list by value, nothing changed: filter and map -/
theorem compL_pure (g : Dg) (c : Dn Bool) (elt : Dn PV) (xs : List PV) (p : PV → Bool) (f : PV → PV) {L : List PV → AH → Prop} (turn : ∀ x ∈ xs, ∃ env1, g x env h = some env1 ∧ (c env1 b h).sat (fun t h1 => t = p x ∧ h1 = h) ∧ (p x = true → (elt env1 b h).sat fun y h1 => y = f x ∧ h1 = h))
    (fin : L ((xs.filter p).map f) h) : (dCompL g c elt (itS xs) (itS xs).n 0 env b h []).sat L := by
  refine compL_sat g c elt (itS xs) (fun i acc h1 => acc = ((xs.take i).filter p).map f ∧ h1 = h) (fun i acc h1 hi ⟨e1, e2⟩ => ?_) (fun acc h1 ⟨e1, e2⟩ => ⟨rfl, ?_⟩) _ 0 [] h (Nat.add_zero _) ⟨by simp, rfl⟩
  · subst e1 e2
    have hi' : i < xs.length := hi
    obtain ⟨env1, g1, c1, t1⟩ := turn xs[i] (List.getElem_mem hi')
    refine ⟨xs[i], env1, List.getElem?_eq_getElem hi', g1, c1.mono fun t h2 ⟨z1, z2⟩ => ?_⟩
    subst z1 z2
    have tk : xs.take (i + 1) = xs.take i ++ [xs[i]] := by rw [List.take_succ, List.getElem?_eq_getElem hi']; rfl
    split
    · rename_i hp
      refine (t1 hp).mono fun y h3 ⟨z3, z4⟩ => ⟨?_, z4⟩
      rw [tk, List.filter_append, List.map_append, z3]
      simp [hp]
    · rename_i hp
      refine ⟨?_, rfl⟩
      rw [tk, List.filter_append, List.map_append]
      simp [hp]
  · subst e1 e2
    rw [show (itS xs).n = xs.length from rfl, List.take_length]
    exact fin
/-! ## operations on values -/
theorem sat_fI (c : Int → Int → Bool) (g : Int → Int → PV) (i j : Int) : (fI c g (.int i) (.int j) b h).sat P ↔ c i j = true ∧ P (g i j) h := by
  show (R.sat (if c i j = true then .ok (g i j) h else .bad) P) ↔ _
  by_cases z : c i j = true <;> simp [z, R.sat]
theorem sat_sub (i j : Int) : (fSub (.int i) (.int j) b h).sat P ↔ P (.int (i - j)) h := by unfold fSub; rw [sat_fI]; simp
theorem sat_div (i j : Int) : (fDiv (.int i) (.int j) b h).sat P ↔ (0 < j ∧ j < 1073741824) ∧ P (.int (i / j)) h := by unfold fDiv; rw [sat_fI]; simp [cDiv]
theorem sat_mod (i j : Int) : (fMod (.int i) (.int j) b h).sat P ↔ 0 < j ∧ P (.int (i % j)) h := by unfold fMod; rw [sat_fI]; simp [cMod]
theorem sat_addI (m : Bool) (i j : Int) : (fAdd m (.int i) (.int j) b h).sat P ↔ P (.int (i + j)) h := Iff.rfl
theorem sat_mulI (m : Bool) (i j : Int) : (fMul m (.int i) (.int j) b h).sat P ↔ cMul i j = true ∧ P (.int (i * j)) h := by
  show (R.sat (if cMul i j = true then .ok (.int (i * j)) h else .bad) P) ↔ _
  by_cases z : cMul i j = true <;> simp [z, R.sat]
theorem sat_addL (m : Bool) (xs ys : List PV) : (fAdd m (.lst xs) (.lst ys) b h).sat P ↔ xs.length + ys.length ≤ 16777216 ∧ (mkL m (xs ++ ys) h).sat P := by
  show (R.sat (if szOk (xs.length + ys.length) = true then mkL m (xs ++ ys) h else .bad) P) ↔ _
  rw [← szOk_le]
  by_cases z : szOk (xs.length + ys.length) = true <;> simp [z, R.sat]
theorem sat_addT (m : Bool) (xs ys : List PV) : (fAdd m (.tup xs) (.tup ys) b h).sat P ↔ xs.length + ys.length ≤ 16777216 ∧ P (.tup (xs ++ ys)) h := by
  show (R.sat (if szOk (xs.length + ys.length) = true then .ok (.tup (xs ++ ys)) h else .bad) P) ↔ _
  rw [← szOk_le]
  by_cases z : szOk (xs.length + ys.length) = true <;> simp [z, R.sat]
theorem sat_addS (m : Bool) (x y : Str) : (fAdd m (.str x) (.str y) b h).sat P ↔ x.length + y.length ≤ 16777216 ∧ P (.str (x ++ y)) h := by
  show (R.sat (if szOk (x.length + y.length) = true then .ok (.str (x ++ y)) h else .bad) P) ↔ _
  rw [← szOk_le]
  by_cases z : szOk (x.length + y.length) = true <;> simp [z, R.sat]
theorem sat_ix (x y : PV) : (fIx x y b h).sat P ↔ ∃ v, ixP h x y = some v ∧ P v h := by
  unfold fIx; cases ixP h x y <;> simp [R.sat]
theorem sat_in (ng : Bool) (x y : PV) : (fIn ng x y b h).sat P ↔ ∃ t, inP h x y = some t ∧ P (.bl (ng ^^ t)) h := by
  unfold fIn; cases inP h x y <;> simp [R.sat]
theorem sat_is (x : PV) : (fIs x .non b h).sat P ↔ P (.bl x.isN) h := Iff.rfl
theorem sat_isnot (x : PV) : (fIsNot x .non b h).sat P ↔ P (.bl (!x.isN)) h := Iff.rfl
theorem sat_eq (x y : PV) : (fEq x y b h).sat P ↔ ∃ d, datOf h x = some d ∧ ∃ e, datOf h y = some e ∧ P (.bl (d.eq e)) h := by
  unfold fEq; cases datOf h x <;> cases datOf h y <;> simp [R.sat]
theorem sat_ne (x y : PV) : (fNe x y b h).sat P ↔ ∃ d, datOf h x = some d ∧ ∃ e, datOf h y = some e ∧ P (.bl (!d.eq e)) h := by
  unfold fNe; cases datOf h x <;> cases datOf h y <;> simp [R.sat]
theorem sat_len (x : PV) : (fLen [x] b h).sat P ↔ ∃ n, lenP h x = some n ∧ P (.int (n : Nat)) h := by
  show (R.sat (match lenP h x with | some n => .ok (.int (n : Nat)) h | none => .bad) P) ↔ _
  cases lenP h x <;> simp [R.sat]
theorem atI_0 {α : Type} (xs : List α) : L2.atI xs 0 = xs[0]? := by unfold L2.atI L2.ixN; cases xs <;> simp
theorem atI_nat {α : Type} (xs : List α) (n : Nat) : L2.atI xs (n : Int) = xs[n]? := by
  unfold L2.atI L2.ixN
  by_cases z : n < xs.length
  · simp [z]
  · simp [z]
theorem atI_1 {α : Type} (xs : List α) : L2.atI xs 1 = xs[1]? := atI_nat xs 1
theorem atI_2 {α : Type} (xs : List α) : L2.atI xs 2 = xs[2]? := atI_nat xs 2
theorem atI_3 {α : Type} (xs : List α) : L2.atI xs 3 = xs[3]? := atI_nat xs 3
theorem atI_4 {α : Type} (xs : List α) : L2.atI xs 4 = xs[4]? := atI_nat xs 4
theorem ix_tup (xs : List PV) (i : Int) : ixP h (.tup xs) (.int i) = L2.atI xs i := rfl
theorem ix_lst (xs : List PV) (i : Int) : ixP h (.lst xs) (.int i) = L2.atI xs i := rfl
theorem ix_scr (ns : List Int) (i : Int) : ixP h (.scr ns) (.int i) = (L2.atI ns i).map .int := rfl
theorem ix_ref {r : Nat} {xs : List PV} (e : h[r]? = some (.lst xs)) (i : Int) : ixP h (.ref r) (.int i) = L2.atI xs i := by
  have d : dicOf h (.ref r) = none := by unfold dicOf; simp only [e]
  unfold ixP; rw [d]; simp [lstOf, e]
theorem dat_str (x : Str) : datOf h (.str x) = some (.str x) := rfl
theorem dat_int (x : Int) : datOf h (.int x) = some (.int x) := rfl
theorem dat_non : datOf h .non = some .non := rfl
theorem dat_nil : datOf h (.lst []) = some (.lst []) := rfl
theorem eq_str (x y : Str) : PV.eq (.str x) (.str y) = decide (x = y) := by unfold PV.eq PV.toD PyData.eqv; rfl
theorem eq_int (x y : Int) : PV.eq (.int x) (.int y) = decide (x = y) := by unfold PV.eq PV.toD PyData.eqv; rfl
end
end Mn
end
section
set_option Elab.async false
set_option linter.all false
set_option maxRecDepth 100000
namespace Mn
open PySem
section
variable {b : Nat} {h : AH} {P : PV → AH → Prop}
theorem lset_ref {r : Nat} {xs : List PV} {v : PV} (e : h[r]? = some (.lst xs)) (ok : okW b r v = true) (i : Nat) (hi : i < xs.length) : lsetP b h (.ref r) (.int i) v = some (h.set r (.lst (xs.set i v))) := by
  show (match h[r]? with
    | some (.lst xs) => if okW b r v = true then (L2.ixN xs.length i).map fun m => h.set r (.lst (xs.set m v)) else none
    | _ => none) = _
  rw [e]
  simp [ok, L2.ixN, hi]
theorem okW_pure {n : Nat} {v : PV} (e : v.low 0 = true) : okW b n v = true := by
  unfold okW
  rw [PV.low_mono (Nat.zero_le _) v e, Bool.or_true]
theorem sat_pow (i j : Int) : (fPow (.int i) (.int j) b h).sat P ↔ cPow i j = true ∧ P (.int (i ^ j.toNat)) h := by unfold fPow; rw [sat_fI]
theorem filter_yes {α : Type} (xs : List α) : xs.filter (fun _ => true) = xs := List.filter_eq_self.mpr (fun _ _ => rfl)
/-- over a list by value, nothing changed, all taken -/
theorem compL_map (g : Dg) (c : Dn Bool) (elt : Dn PV) (xs : List PV) (f : PV → PV) {env : EnvP} {L : List PV → AH → Prop} (turn : ∀ x ∈ xs, ∃ env1, g x env h = some env1 ∧ (c env1 b h).sat (fun t h1 => t = true ∧ h1 = h) ∧ (elt env1 b h).sat fun y h1 => y = f x ∧ h1 = h) (fin : L (xs.map f) h) :
    (dCompL g c elt (itS xs) (itS xs).n 0 env b h []).sat L :=
  compL_pure g c elt xs (fun _ => true) f (fun x hx => let ⟨e, q1, q2, q3⟩ := turn x hx; ⟨e, q1, q2, fun _ => q3⟩) (by rw [filter_yes]; exact fin)
theorem compL_typ {τ : Type} (g : Dg) (c : Dn Bool) (elt : Dn PV) (ts : List τ) (e : τ → PV) (p : τ → Bool) (f : τ → PV) {env : EnvP} {L : List PV → AH → Prop}
    (turn : ∀ t ∈ ts, ∃ env1, g (e t) env h = some env1 ∧ (c env1 b h).sat (fun r h1 => r = p t ∧ h1 = h) ∧ (p t = true → (elt env1 b h).sat fun y h1 => y = f t ∧ h1 = h)) (fin : L ((ts.filter p).map f) h) : (dCompL g c elt (itS (ts.map e)) (itS (ts.map e)).n 0 env b h []).sat L := by
  refine compL_sat g c elt (itS (ts.map e)) (fun i acc h1 => acc = ((ts.take i).filter p).map f ∧ h1 = h) (fun i acc h1 hi ⟨e1, e2⟩ => ?_) (fun acc h1 ⟨e1, e2⟩ => ⟨rfl, ?_⟩) _ 0 [] h (Nat.add_zero _) ⟨by simp, rfl⟩
  · subst e1 e2
    have hi' : i < ts.length := by
      have z : i < (ts.map e).length := hi
      rwa [List.length_map] at z
    obtain ⟨env1, g1, c1, t1⟩ := turn ts[i] (List.getElem_mem hi')
    refine ⟨e ts[i], env1, ?_, g1, c1.mono fun t h2 ⟨z1, z2⟩ => ?_⟩
    · show (ts.map e)[i]? = _
      rw [List.getElem?_map, List.getElem?_eq_getElem hi']; rfl
    · subst z1 z2
      have tk : ts.take (i + 1) = ts.take i ++ [ts[i]] := by rw [List.take_succ, List.getElem?_eq_getElem hi']; rfl
      split
      · rename_i hp
        refine (t1 hp).mono fun y h3 ⟨z3, z4⟩ => ⟨?_, z4⟩
        rw [tk, List.filter_append, List.map_append, z3]
        simp [hp]
      · rename_i hp
        refine ⟨?_, rfl⟩
        rw [tk, List.filter_append, List.map_append]
        simp [hp]
  · subst e1 e2
    rw [show (itS (ts.map e)).n = ts.length from List.length_map .., List.take_length]
    exact fin
theorem sat_seqI {d : Dn PV} {env : EnvP} {Q : ItP → AH → Prop} : (dSeqI d env b h).sat Q ↔ (d env b h).sat fun x h1 => ∃ it, seqI h1 x = some it ∧ Q it h1 := by
  unfold dSeqI; simp only [sat_bind]
  apply iff_of_eq; congr; funext x h1; cases seqI h1 x <;> simp [R.sat]
theorem seqI_lst (xs : List PV) : seqI h (.lst xs) = some (itS xs) := rfl
theorem seqI_tup (xs : List PV) : seqI h (.tup xs) = some (itS xs) := rfl
theorem sat_sl (m : Bool) (d : Dn PV) (dl dh : EnvP → Nat → AH → R (Option Int)) {env : EnvP} : (dSl m d dl dh env b h).sat P ↔ (d env b h).sat fun x h1 => (dl env b h1).sat fun lo h2 => (dh env b h2).sat fun hi h3 => (cutP m h3 x lo hi).sat P := by
  unfold dSl; simp only [sat_bind, sat_noExc]
theorem sat_part (d : Dn PV) {env : EnvP} {Q : Option Int → AH → Prop} : (dPart d env b h).sat Q ↔ (d env b h).sat fun x h1 => ∃ i, x = .int i ∧ Q (some i) h1 := by
  unfold dPart; simp only [sat_bind]
  apply iff_of_eq; congr; funext x h1; cases x <;> simp [R.sat]
theorem sat_nopart {env : EnvP} {Q : Option Int → AH → Prop} : (dNoPart env b h).sat Q ↔ Q none h := Iff.rfl
theorem sat_bm (chk : AH → PV → Bool) (f : PV → List PV → Nat → AH → R PV) (d : Dn PV) (ds : Dn (List PV)) {env : EnvP} : (dBm chk f d ds env b h).sat P ↔ (d env b h).sat fun x h1 => chk h1 x = true ∧ (ds env b h1).sat fun xs h2 => (f x xs b h2).sat P := by
  unfold dBm; simp only [sat_bind]
  apply iff_of_eq; congr; funext x h1
  by_cases z : chk h1 x = true
  · simp only [z, if_true, sat_bind, sat_noExc, true_and]
  · simp only [z, if_false, false_and]; simp [R.sat]
theorem isL_ref {n : Nat} {xs : List PV} (e : h[n]? = some (.lst xs)) : isL h (.ref n) = true := by unfold isL lstOf; simp only [e]; rfl
theorem append_ref {n : Nat} {xs : List PV} {y : PV} (e : h[n]? = some (.lst xs)) : (fAppend (.ref n) [y] b h).sat P ↔ (xs.length + 1 ≤ 16777216 ∧ okW b n y = true) ∧ P .non (h.set n (.lst (xs ++ [y]))) := by
  show (R.sat (match h[n]? with
    | some (.lst xs) => if (szOk (xs.length + 1) && okW b n y) = true then .ok .non (h.set n (.lst (xs ++ [y]))) else .bad
    | _ => .bad) P) ↔ _
  rw [e, ← szOk_le]
  simp only
  by_cases z : (szOk (xs.length + 1) && okW b n y) = true
  · rw [if_pos z]
    rw [Bool.and_eq_true] at z
    exact ⟨fun q => ⟨z, q⟩, fun q => q.2⟩
  · rw [if_neg z]
    rw [Bool.and_eq_true] at z
    exact ⟨fun q => q.elim, fun q => z q.1⟩
theorem compL_it {τ : Type} (g : Dg) (c : Dn Bool) (elt : Dn PV) (it : ItP) (ts : List τ) (e : τ → PV) (p : τ → Bool) (f : τ → PV) {env : EnvP} {L : List PV → AH → Prop} (hn : it.n = ts.length) (hg : ∀ i, it.get h i = (ts.map e)[i]?) (hf : it.fin h = true)
    (turn : ∀ t ∈ ts, ∃ env1, g (e t) env h = some env1 ∧ (c env1 b h).sat (fun r h1 => r = p t ∧ h1 = h) ∧ (p t = true → (elt env1 b h).sat fun y h1 => y = f t ∧ h1 = h)) (fin : L ((ts.filter p).map f) h) : (dCompL g c elt it it.n 0 env b h []).sat L := by
  refine compL_sat g c elt it (fun i acc h1 => acc = ((ts.take i).filter p).map f ∧ h1 = h) (fun i acc h1 hi ⟨e1, e2⟩ => ?_) (fun acc h1 ⟨e1, e2⟩ => ⟨by rw [e2]; exact hf, ?_⟩) _ 0 [] h (Nat.add_zero _) ⟨by simp, rfl⟩
  · subst e1 e2
    have hi' : i < ts.length := by rw [← hn]; exact hi
    obtain ⟨env1, g1, c1, t1⟩ := turn ts[i] (List.getElem_mem hi')
    refine ⟨e ts[i], env1, ?_, g1, c1.mono fun t h2 ⟨z1, z2⟩ => ?_⟩
    · rw [hg, List.getElem?_map, List.getElem?_eq_getElem hi']; rfl
    · subst z1 z2
      have tk : ts.take (i + 1) = ts.take i ++ [ts[i]] := by rw [List.take_succ, List.getElem?_eq_getElem hi']; rfl
      split
      · rename_i hp
        refine (t1 hp).mono fun y h3 ⟨z3, z4⟩ => ⟨?_, z4⟩
        rw [tk, List.filter_append, List.map_append, z3]
        simp [hp]
      · rename_i hp
        refine ⟨?_, rfl⟩
        rw [tk, List.filter_append, List.map_append]
        simp [hp]
  · subst e1 e2
    rw [hn, List.take_length]
    exact fin
theorem seqI_ref {n : Nat} {xs : List PV} (e : h[n]? = some (.lst xs)) : seqI h (.ref n) = some (itN n xs.length) := by unfold seqI lstOf; simp only [e]; rfl
theorem itN_get {n m : Nat} {xs : List PV} (e : h[n]? = some (.lst xs)) (i : Nat) : (itN n m).get h i = xs[i]? := by unfold itN lstOf; simp only [e]; rfl
theorem itN_fin {n : Nat} {xs : List PV} (e : h[n]? = some (.lst xs)) : (itN n xs.length).fin h = true := by unfold itN lstOf; simp only [e]; exact Nat.beq_refl _
theorem sat_eq_of {α : Type} {r : R α} {v : α} {h' : AH} (s : r.sat fun a k => a = v ∧ k = h') : r = .ok v h' := by
  obtain ⟨a, k, e, e1, e2⟩ := s.ex
  rw [e, e1, e2]
theorem eq_sat {α : Type} {r : R α} {v : α} {h' : AH} {Q : α → AH → Prop} (e : r = .ok v h') : r.sat Q ↔ Q v h' := by rw [e]; exact Iff.rfl
end
end Mn
end
section
set_option Elab.async false
set_option linter.all false
set_option maxRecDepth 100000
namespace Mn
open PySem
section
variable {b : Nat} {h : AH} {P : PV → AH → Prop} {env : EnvP} {Q : ItP → AH → Prop}
theorem sat_rng1 (ds : Dn (List PV)) : (dRng1 ds env b h).sat Q ↔ (ds env b h).sat fun xs h1 => ∃ i : Int, xs = [.int i] ∧ (i ≤ 16777216 ∧ -4611686018427387904 ≤ i) ∧ Q (itRg 0 i.toNat) h1 := by
  unfold dRng1; simp only [sat_bind]
  apply iff_of_eq; congr; funext xs h1; apply propext
  split
  · rename_i i
    rw [sat_ite]
    by_cases z : i ≤ 16777216 <;> by_cases z2 : -4611686018427387904 ≤ i <;> simp [z, z2, R.sat]
  · rename_i ne
    exact ⟨fun q => q.elim, fun ⟨i, e, _⟩ => (ne i e).elim⟩
theorem sat_rng2 (ds : Dn (List PV)) : (dRng2 ds env b h).sat Q ↔ (ds env b h).sat fun xs h1 => ∃ i j : Int, xs = [.int i, .int j] ∧ (j ≤ 16777216 ∧ -4611686018427387904 ≤ j ∧ i ≤ 16777216 ∧ 0 ≤ i) ∧ Q (itRg i (j - i).toNat) h1 := by
  unfold dRng2; simp only [sat_bind]
  apply iff_of_eq; congr; funext xs h1; apply propext
  split
  · rename_i i j
    rw [sat_ite]
    constructor
    · intro q
      split at q
      · rename_i z
        simp only [decide_eq_true_eq] at z
        exact ⟨i, j, rfl, z, q⟩
      · exact q.elim
    · rintro ⟨i', j', e, z, q⟩
      cases e
      rw [if_pos (by simpa using z)]
      exact q
  · rename_i ne
    exact ⟨fun q => q.elim, fun ⟨i, j, e, _⟩ => (ne i j e).elim⟩
theorem sat_zip (ds : Dn (List PV)) : (dZip ds env b h).sat Q ↔ (ds env b h).sat fun xs h1 => ∃ x y p q, xs = [x, y] ∧ srcP h1 x = some p ∧ srcP h1 y = some q ∧ Q (itZ p.2 q.2) h1 := by
  unfold dZip; simp only [sat_bind]
  apply iff_of_eq; congr; funext xs h1; apply propext
  split
  · rename_i x y
    constructor
    · intro z
      cases e1 : srcP h1 x with
      | none => rw [e1] at z; exact z.elim
      | some p =>
        cases e2 : srcP h1 y with
        | none => rw [e1, e2] at z; exact z.elim
        | some q => rw [e1, e2] at z; exact ⟨x, y, p, q, rfl, e1, e2, z⟩
    · rintro ⟨x', y', p, q, e, e1, e2, z⟩
      cases e
      rw [e1, e2]
      exact z
  · rename_i ne
    exact ⟨fun q => q.elim, fun ⟨x, y, p, q, e, _⟩ => (ne x y e).elim⟩
theorem sat_zipL (m : Bool) (x y : PV) : (fZipL m [x, y] b h).sat P ↔ ∃ xs ys, seqOf h x = some xs ∧ seqOf h y = some ys ∧ (mkL m (zipT xs ys) h).sat P := by
  unfold fZipL
  cases e1 : seqOf h x <;> cases e2 : seqOf h y <;> simp [R.sat, e1, e2]
theorem sat_listOf (m : Bool) (x : PV) : (fListOf m [x] b h).sat P ↔ ∃ ys, seqOf h x = some ys ∧ (mkL m ys h).sat P := by
  unfold fListOf
  cases e1 : seqOf h x <;> simp [R.sat, e1]
theorem sat_tupOf (x : PV) : (fTupOf [x] b h).sat P ↔ ∃ ys, seqOf h x = some ys ∧ P (.tup ys) h := by
  unfold fTupOf
  cases e1 : seqOf h x <;> simp [R.sat, e1]
theorem sat_all (x : PV) : (fAll [x] b h).sat P ↔ ∃ ts, (lstOf h x).bind blsOf = some ts ∧ P (.bl (ts.all id)) h := by
  unfold fAll
  cases e1 : (lstOf h x).bind blsOf <;> simp [R.sat, e1]
theorem sat_any (x : PV) : (fAny [x] b h).sat P ↔ ∃ ts, (lstOf h x).bind blsOf = some ts ∧ P (.bl (ts.any id)) h := by
  unfold fAny
  cases e1 : (lstOf h x).bind blsOf <;> simp [R.sat, e1]
theorem sat_isi (x : PV) (n : String) : (fIsi [x, .ty n] b h).sat P ↔ ∃ r, ((tyP h x).bind fun t => kitP t n) = some r ∧ P (.bl r) h := by
  unfold fIsi
  cases e1 : (tyP h x).bind fun t => kitP t n <;> simp [R.sat, e1]
theorem sat_max2 (i j : Int) : (fMax2 [.int i, .int j] b h).sat P ↔ P (.int (if j > i then j else i)) h := Iff.rfl
theorem sat_min2 (i j : Int) : (fMin2 [.int i, .int j] b h).sat P ↔ P (.int (if j < i then j else i)) h := Iff.rfl
theorem sat_make (c : Str) (fn : Fn) (np : Nat) (dfl : List PV) (ds : Dn (List PV)) : (dMake c fn np dfl ds env b h).sat P ↔ (ds env b h).sat fun xs h1 => xs.length + dfl.length + 1 = np ∧ (fn (.ref h1.length :: (xs ++ dfl)) b (h1 ++ [.ins c [] []])).sat fun v h2 => v = .non ∧ P (.ref h1.length) h2 := by
  unfold dMake; simp only [sat_bind]
  apply iff_of_eq; congr; funext xs h1; apply propext
  by_cases z : xs.length + dfl.length + 1 = np
  · simp only [z, if_true, true_and]
    cases fn (.ref h1.length :: (xs ++ dfl)) b (h1 ++ [.ins c [] []]) with
    | ok v h2 => cases v <;> simp [R.sat]
    | exc => exact Iff.rfl
    | bad => exact Iff.rfl
  · simp only [z, if_false, false_and]; exact Iff.rfl
theorem sat_dic0 (m : Bool) : (dDic0 m env b h).sat P ↔ if m = true then P (.ref h.length) (h ++ [.dic [] []]) else P (.dic [] []) h := by
  unfold dDic0 mkD; cases m <;> exact Iff.rfl
theorem sat_chn (f f' : PV → PV → Nat → AH → R PV) (da db dc : Dn PV) : (dChn f f' da db dc env b h).sat P ↔ (da env b h).sat fun x h1 => (db env b h1).sat fun y h2 => (f x y b h2).sat fun z h3 => ∃ t, z = .bl t ∧ if t = true then (dc env b h3).sat fun w h4 => (f' y w b h4).sat P else P (.bl false) h3 := by
  unfold dChn; simp only [sat_bind, sat_noExc]
  apply iff_of_eq; congr; funext x h1; congr; funext y h2; congr; funext z h3; apply propext
  cases z with
  | bl t =>
    cases t with
    | false => simp [R.sat]
    | true =>
      simp only [PV.bl.injEq, exists_eq_left', if_true]
      rw [sat_bind]
      simp only [sat_noExc]
  | _ => simp [R.sat]
theorem seqOf_lst (xs : List PV) : seqOf h (.lst xs) = some xs := rfl
theorem seqOf_tup (xs : List PV) : seqOf h (.tup xs) = some xs := rfl
theorem seqOf_ref {n : Nat} {xs : List PV} (e : h[n]? = some (.lst xs)) : seqOf h (.ref n) = some xs := by unfold seqOf; simp only [e]
theorem lstOf_lst (xs : List PV) : lstOf h (.lst xs) = some xs := rfl
theorem lstOf_ref {n : Nat} {xs : List PV} (e : h[n]? = some (.lst xs)) : lstOf h (.ref n) = some xs := by unfold lstOf; simp only [e]
theorem lenP_ref {n : Nat} {xs : List PV} (e : h[n]? = some (.lst xs)) : lenP h (.ref n) = some xs.length := by show (match lstOf h (.ref n) with | some xs => some xs.length | none => (dicOf h (.ref n)).map fun (p : List L2.Key × List PV) => p.1.length) = _; rw [lstOf_ref e]
theorem lenP_lst (xs : List PV) : lenP h (.lst xs) = some xs.length := rfl
theorem lenP_tup (xs : List PV) : lenP h (.tup xs) = some xs.length := rfl
theorem srcP_lst (xs : List PV) : srcP h (.lst xs) = some (true, itS xs) := rfl
theorem srcP_tup (xs : List PV) : srcP h (.tup xs) = some (false, itS xs) := rfl
theorem blsOf_map {α : Type} (f : α → Bool) : ∀ xs : List α, blsOf (xs.map fun x => .bl (f x)) = some (xs.map f)
  | [] => rfl
  | x :: xs => by simp only [List.map_cons, blsOf, blsOf_map f xs, Option.map_some]
theorem tyP_str (x : Str) : tyP h (.str x) = some "str" := rfl
theorem tyP_tup (xs : List PV) : tyP h (.tup xs) = some "tuple" := rfl
theorem tyP_lst (xs : List PV) : tyP h (.lst xs) = some "list" := rfl
theorem tyP_int (i : Int) : tyP h (.int i) = some "int" := rfl
theorem tyP_non : tyP h .non = some "NoneType" := rfl
end
theorem take_min {α : Type} (xs : List α) (n : Nat) : xs.take (min n xs.length) = xs.take n := by
  by_cases z : n ≤ xs.length
  · rw [Nat.min_eq_left z]
  · rw [Nat.min_eq_right (by omega), List.take_of_length_le (Nat.le_refl _), List.take_of_length_le (by omega)]
theorem drop_min {α : Type} (xs : List α) (n : Nat) : (xs.drop (min n xs.length)).take (xs.length - min n xs.length) = xs.drop n := by
  by_cases z : n ≤ xs.length
  · rw [Nat.min_eq_left z, List.take_of_length_le (by simp)]
  · rw [Nat.min_eq_right (by omega), List.drop_of_length_le (Nat.le_refl _), List.drop_of_length_le (by omega)]; simp
theorem cut_to {h : AH} (m : Bool) (xs : List PV) (n : Nat) : cutP m h (.lst xs) none (some (n : Int)) = mkL m (xs.take n) h := by
  show mkL m ((xs.drop (HT.sIx xs.length 0 none)).take (HT.sIx xs.length xs.length (some (n : Int)) - HT.sIx xs.length 0 none)) h = _
  rw [HT.sIx_nat, HT.sIx_none, List.drop_zero, Nat.sub_zero, take_min]
theorem cut_from {h : AH} (m : Bool) (xs : List PV) (n : Nat) : cutP m h (.lst xs) (some (n : Int)) none = mkL m (xs.drop n) h := by
  show mkL m ((xs.drop (HT.sIx xs.length 0 (some (n : Int)))).take (HT.sIx xs.length xs.length none - HT.sIx xs.length 0 (some (n : Int)))) h = _
  rw [HT.sIx_nat, HT.sIx_none, drop_min]
theorem cut_toT {h : AH} (m : Bool) (xs : List PV) (n : Nat) : cutP m h (.tup xs) none (some (n : Int)) = .ok (.tup (xs.take n)) h := by
  show R.ok (PV.tup (if HT.sIx xs.length 0 none = 0 ∧ HT.sIx xs.length xs.length (some (n : Int)) = xs.length then xs else ((xs.drop (HT.sIx xs.length 0 none)).take (HT.sIx xs.length xs.length (some (n : Int)) - HT.sIx xs.length 0 none)))) h = _
  rw [HT.sIx_nat, HT.sIx_none, List.drop_zero, Nat.sub_zero, take_min]
  split
  · rename_i z
    rw [List.take_of_length_le (by omega)]
  · rfl
theorem cut_fromT {h : AH} (m : Bool) (xs : List PV) (n : Nat) : cutP m h (.tup xs) (some (n : Int)) none = .ok (.tup (xs.drop n)) h := by
  show R.ok (PV.tup (if HT.sIx xs.length 0 (some (n : Int)) = 0 ∧ HT.sIx xs.length xs.length none = xs.length then xs else ((xs.drop (HT.sIx xs.length 0 (some (n : Int)))).take (HT.sIx xs.length xs.length none - HT.sIx xs.length 0 (some (n : Int)))))) h = _
  rw [HT.sIx_nat, HT.sIx_none, drop_min]
  split
  · rename_i z
    have : n = 0 ∨ xs = [] := by
      rcases z with ⟨z, _⟩
      rcases Nat.eq_zero_or_pos n with e | e
      · exact .inl e
      · exact .inr (List.length_eq_zero_iff.mp (by omega))
    rcases this with e | e
    · rw [e]; rfl
    · rw [e]; simp
  · rfl
theorem rz_low {f : Nat} {h : AH} {n : Nat} {v : PV} (e : v.low n = true) : rz f h n v = some v := by
  cases f <;> (unfold rz; simp [e])
theorem mapM_low {f : Nat} {h : AH} {n : Nat} : ∀ {xs : List PV}, PV.lowL n xs = true → xs.mapM (fun x => rz f h n x) = some xs
  | [], _ => rfl
  | x :: xs, e => by
    unfold PV.lowL at e
    rw [Bool.and_eq_true] at e
    rw [List.mapM_cons, rz_low e.1, mapM_low e.2]
    rfl
/-- a new list as an item at the end of a tuple -/
theorem rz_tupRef {h : AH} {n i : Nat} {xs ys : List PV} {f : Nat} (hx : PV.lowL n xs = true) (hi : n ≤ i) (e : h[i]? = some (.lst ys)) (hy : PV.lowL n ys = true) : rz (f + 3) h n (.tup (xs ++ [.ref i])) = some (.tup (xs ++ [.lst ys])) := by
  have lo : (PV.tup (xs ++ [.ref i])).low n = false := by
    rw [Bool.eq_false_iff]
    intro z
    have q := PV.lowL_iff.mp (show PV.lowL n (xs ++ [.ref i]) = true from z) (.ref i) (by simp)
    simp only [PV.low, decide_eq_true_eq] at q
    omega
  have lo2 : (PV.ref i).low n = false := by simp only [PV.low, decide_eq_false_iff_not]; omega
  have last : rz (f + 1) h n (.ref i) = some (.lst ys) := by
    unfold rz
    simp only [lo2, e]
    cases f with
    | zero => simp [rzL, hy]
    | succ f => simp [rzL, mapM_low hy]
  have all : ∀ (xs : List PV), PV.lowL n xs = true → (xs ++ [PV.ref i]).mapM (fun x => rz (f + 1) h n x) = some (xs ++ [.lst ys]) := by
    intro xs
    induction xs with
    | nil => intro _; show List.mapM _ [PV.ref i] = _; rw [List.mapM_cons, last]; rfl
    | cons x xs ih =>
      intro q
      unfold PV.lowL at q
      rw [Bool.and_eq_true] at q
      rw [List.cons_append, List.mapM_cons, rz_low q.1, ih q.2]
      rfl
  rw [rz]
  simp only [lo]
  simp only [Bool.false_eq_true, if_false]
  rw [rzL, all _ hx]
  rfl
/-- the heap of a region handed back -/
theorem PopS.len {n : Nat} {v : PV} {h : AH} {P : PV → AH → Prop} (e : h.length = n) (p : P v h) : PopS n v h P := (popS_same e).mpr p
end Mn
namespace Mn
section
variable {b : Nat} {h : AH} {env : EnvP}
theorem compL_rg (g : Dg) (c : Dn Bool) (elt : Dn PV) (lo : Int) (n : Nat) (p : Nat → Bool) (f : Nat → PV) {L : List PV → AH → Prop}
    (turn : ∀ i, i < n → ∃ env1, g (.int (lo + (i : Nat))) env h = some env1 ∧ (c env1 b h).sat (fun r h1 => r = p i ∧ h1 = h) ∧ (p i = true → (elt env1 b h).sat fun y h1 => y = f i ∧ h1 = h)) (fin : L (((List.range n).filter p).map f) h) : (dCompL g c elt (itRg lo n) (itRg lo n).n 0 env b h []).sat L := by
  refine compL_sat g c elt (itRg lo n) (fun i acc h1 => acc = ((List.range i).filter p).map f ∧ h1 = h) (fun i acc h1 hi ⟨e1, e2⟩ => ?_) (fun acc h1 ⟨e1, e2⟩ => ⟨rfl, ?_⟩) _ 0 [] h (Nat.add_zero _) ⟨rfl, rfl⟩
  · subst e1 e2
    obtain ⟨env1, g1, c1, t1⟩ := turn i hi
    refine ⟨_, env1, rfl, g1, c1.mono fun t h2 ⟨z1, z2⟩ => ?_⟩
    subst z1 z2
    split
    · rename_i hp
      refine (t1 hp).mono fun y h3 ⟨z3, z4⟩ => ⟨?_, z4⟩
      rw [List.range_succ, List.filter_append, List.map_append, z3]
      simp [hp]
    · rename_i hp
      refine ⟨?_, rfl⟩
      rw [List.range_succ, List.filter_append, List.map_append]
      simp [hp]
  · subst e1 e2
    exact fin
end
end Mn
end
section
set_option Elab.async false
set_option linter.all false
set_option maxRecDepth 100000
set_option maxHeartbeats 0
namespace K72
open PySem PySem.Spec L2 Mn
def c_INNER : PV := (.tup [(.str "ya"), (.str "yb"), (.str "yc"), (.str "yd")])
def c_MOST_IN_RIGHT : PV := (.int 40)
def c_MOST_KINDS : PV := (.int 8)
def c_MOST_LETTERS : PV := (.int 8)
def c_MOST_MAKERS : PV := (.int 6)
def c_MOST_TAKEN : PV := (.int 4)
def c_MOST_WORKS : PV := (.int 16)
def c_OUTER : PV := (.tup [(.str "xa"), (.str "xb"), (.str "xc"), (.str "xd")])
def c_SMALL : PV := (.str "abcdefghijklmnopqrstuvwxyz")
def c_WORDS : PV := (.tup [(.str "no"), (.str "not"), (.str "and"), (.str "or"), (.str "so"), (.str "all"), (.str "some")])
def okG : Str → Bool := fun c => c == "Ground"
def d_is_told_name : Ds := (dSeq (dIf (dOr (dNot (dTv (dOpL fIsi (dCons (dVar 0) (dCons (dC (.ty "str")) dNil))))) (dOr (dTv (dOp2 fLt (dOpL fLen (dCons (dVar 0) dNil)) (dC (.int 1)))) (dOr (dTv (dOp2 fGt (dOpL fLen (dCons (dVar 0) dNil)) (dC c_MOST_LETTERS))) (dTv (dOp2 (fIn false) (dVar 0) (dC c_WORDS)))))) (dSeq (dRet (dC (.bl false)))
  dNx) dNx)
  (dSeq (dRet (dOpL fAll (dCons (dComp false [1] (dSeqI (dVar 0)) (gNm 1) dYes (dOp2 (fIn false) (dVar 1) (dC c_SMALL))) dNil)))
  dNx))
def f_is_told_name : Fn := mkFn true 2 d_is_told_name
def d_Ground_is_kind : Ds := (dSeq (dRet (dAndV (dOpL fIsi (dCons (dVar 1) (dCons (dC (.ty "str")) dNil))) (dOp2 (fIn false) (dVar 1) (dAtt "makers_row" okG (dVar 0)))))
  dNx)
def f_Ground_is_kind : Fn := mkFn true 2 d_Ground_is_kind
def mt_is_kind : Str → Option (Nat × Fn) := mt1 "Ground" 2 f_Ground_is_kind
def d_Ground_is_maker : Ds := (dSeq (dRet (dAndV (dOpL fIsi (dCons (dVar 1) (dCons (dC (.ty "str")) dNil))) (dOp2 (fIn false) (dVar 1) (dAtt "maker_names" okG (dVar 0)))))
  dNx)
def f_Ground_is_maker : Fn := mkFn true 2 d_Ground_is_maker
def mt_is_maker : Str → Option (Nat × Fn) := mt1 "Ground" 2 f_Ground_is_maker
def d_Ground_is_work : Ds := (dSeq (dRet (dAndV (dOpL fIsi (dCons (dVar 1) (dCons (dC (.ty "str")) dNil))) (dOp2 (fIn false) (dVar 1) (dAtt "rights_row" okG (dVar 0)))))
  dNx)
def f_Ground_is_work : Fn := mkFn true 2 d_Ground_is_work
def mt_is_work : Str → Option (Nat × Fn) := mt1 "Ground" 2 f_Ground_is_work
def d_Ground_takes : Ds := (dSeq (dRet (dOpL (fListOf false) (dCons (dOp2 fIx (dAtt "takes_row" okG (dVar 0)) (dVar 1)) dNil)))
  dNx)
def f_Ground_takes : Fn := mkFn true 2 d_Ground_takes
def mt_takes : Str → Option (Nat × Fn) := mt1 "Ground" 2 f_Ground_takes
def d_Ground_gives : Ds := (dSeq (dRet (dOp2 fIx (dAtt "gives_row" okG (dVar 0)) (dVar 1)))
  dNx)
def f_Ground_gives : Fn := mkFn true 2 d_Ground_gives
def mt_gives : Str → Option (Nat × Fn) := mt1 "Ground" 2 f_Ground_gives
def d_kind_or_none (rec : Fn) : Ds := (dSeq (dIf (dOr (dNot (dTv (dOpL fIsi (dCons (dVar 1) (dCons (dC (.ty "tuple")) dNil))))) (dTv (dOp2 fNe (dOpL fLen (dCons (dVar 1) dNil)) (dC (.int 3))))) (dSeq (dRet (dC .non))
  dNx) dNx)
  (dSeq (dIf (dTv (dOp2 fEq (dOp2 fIx (dVar 1) (dC (.int 0))) (dC (.str "name")))) (dSeq (dIf (dAnd (dTv (dCall f_is_told_name 1 [] (dCons (dOp2 fIx (dVar 1) (dC (.int 1))) dNil))) (dTv (dMeth "is_kind" mt_is_kind (dVar 0) (dCons (dOp2 fIx (dVar 1) (dC (.int 2))) dNil)))) (dSeq (dRet (dOp2 fIx (dVar 1) (dC (.int 2))))
  dNx) dNx)
  (dSeq (dRet (dC .non))
  dNx)) dNx)
  (dSeq (dIf (dOr (dTv (dOp2 fNe (dOp2 fIx (dVar 1) (dC (.int 0))) (dC (.str "made")))) (dNot (dTv (dOpL fIsi (dCons (dOp2 fIx (dVar 1) (dC (.int 2))) (dCons (dC (.ty "tuple")) dNil)))))) (dSeq (dRet (dC .non))
  dNx) dNx)
  (dSeq (dIf (dAnd (dNot (dTv (dMeth "is_maker" mt_is_maker (dVar 0) (dCons (dOp2 fIx (dVar 1) (dC (.int 1))) dNil)))) (dNot (dTv (dMeth "is_work" mt_is_work (dVar 0) (dCons (dOp2 fIx (dVar 1) (dC (.int 1))) dNil))))) (dSeq (dRet (dC .non))
  dNx) dNx)
  (dSeq (dSet 2 (dMeth "takes" mt_takes (dVar 0) (dCons (dOp2 fIx (dVar 1) (dC (.int 1))) dNil)))
  (dSeq (dIf (dTv (dOp2 fNe (dOpL fLen (dCons (dVar 2) dNil)) (dOpL fLen (dCons (dOp2 fIx (dVar 1) (dC (.int 2))) dNil)))) (dSeq (dRet (dC .non))
  dNx) dNx)
  (dSeq (dFor (dZip (dCons (dOp2 fIx (dVar 1) (dC (.int 2))) (dCons (dVar 2) dNil))) (gT 2 (gC (gNm 3) (gC (gNm 4) gN))) (dSeq (dIf (dTv (dOp2 fNe (dCall rec 2 [] (dCons (dVar 0) (dCons (dVar 3) dNil))) (dVar 4))) (dSeq (dRet (dC .non))
  dNx) dNx)
  dNx))
  (dSeq (dRet (dMeth "gives" mt_gives (dVar 0) (dCons (dOp2 fIx (dVar 1) (dC (.int 1))) dNil)))
  dNx))))))))
def f_kind_or_none : Nat → Fn
  | 0 => mkFn true 5 dBad
  | n + 1 => mkFn true 5 (d_kind_or_none (f_kind_or_none n))
def d_kind_of : Ds := (dSeq (dIf (dTv (dOp2 fEq (dOp2 fIx (dVar 1) (dC (.int 0))) (dC (.str "name")))) (dSeq (dRet (dOp2 fIx (dVar 1) (dC (.int 2))))
  dNx) dNx)
  (dSeq (dRet (dMeth "gives" mt_gives (dVar 0) (dCons (dOp2 fIx (dVar 1) (dC (.int 1))) dNil)))
  dNx))
def f_kind_of : Fn := mkFn true 2 d_kind_of
def d_things_within : Ds := (dSeq (dIf (dTv (dOp2 fEq (dOp2 fIx (dVar 0) (dC (.int 0))) (dC (.str "made")))) (dSeq (dRet (dOpL (fListOf false) (dCons (dOp2 fIx (dVar 0) (dC (.int 2))) dNil)))
  dNx) dNx)
  (dSeq (dIf (dTv (dOp2 (fIn false) (dOp2 fIx (dVar 0) (dC (.int 0))) (dTup (dCons (dC (.str "all")) (dCons (dC (.str "some")) dNil))))) (dSeq (dRet (dLst false (dCons (dOp2 fIx (dVar 0) (dC (.int 2))) dNil)))
  dNx) dNx)
  (dSeq (dIf (dTv (dOp2 (fIn false) (dOp2 fIx (dVar 0) (dC (.int 0))) (dTup (dCons (dC (.str "same")) (dCons (dC (.str "not")) (dCons (dC (.str "and")) (dCons (dC (.str "or")) (dCons (dC (.str "so")) dNil)))))))) (dSeq (dRet (dOpL (fListOf false) (dCons (dSl false (dVar 0) (dPart (dC (.int 1))) dNoPart) dNil)))
  dNx) dNx)
  (dSeq (dRet (dLst false dNil))
  dNx))))
def f_things_within : Fn := mkFn true 1 d_things_within
def d_all_within : Ds := (dSeq (dSet 1 (dLst true (dCons (dVar 0) dNil)))
  (dSeq (dSet 2 (dC (.int 0)))
  (dSeq (dWhile (dTv (dOp2 fLt (dVar 2) (dOpL fLen (dCons (dVar 1) dNil)))) (dSeq (dExp (dBm isL fExtend (dVar 1) (dCons (dCall f_things_within 1 [] (dCons (dOp2 fIx (dVar 1) (dVar 2)) dNil)) dNil)))
  (dSeq (dAug 2 (dC (.int 1)))
  dNx)) 400)
  (dSeq (dRet (dVar 1))
  dNx))))
def f_all_within : Fn := mkFn true 3 d_all_within
def d_signs_of : Ds := (dSeq (dRet (dOpL fLen (dCons (dCall f_all_within 1 [] (dCons (dVar 0) dNil)) dNil)))
  dNx)
def f_signs_of : Fn := mkFn true 1 d_signs_of
def d_names_of : Ds := (dSeq (dRet (dOpL fSrtSet (dCons (dComp false [1] (dSeqI (dCall f_all_within 1 [] (dCons (dVar 0) dNil))) (gNm 1) (dTv (dOp2 fEq (dOp2 fIx (dVar 1) (dC (.int 0))) (dC (.str "name")))) (dSl false (dVar 1) (dPart (dC (.int 1))) dNoPart)) dNil)))
  dNx)
def f_names_of : Fn := mkFn true 2 d_names_of
def d_fits_at : Ds := (dSeq (dIf (dTv (dOp2 fEq (dOp2 fIx (dVar 3) (dC (.int 0))) (dC (.str "bound")))) (dSeq (dSet 5 (dOp2 fIx (dVar 3) (dC (.int 1))))
  (dSeq (dIf (dAnd (dTv (dOp2 fIs (dOp2 fIx (dVar 2) (dVar 5)) (dC .non))) (dTv (dOp2 fEq (dCall f_kind_of 2 [] (dCons (dVar 0) (dCons (dVar 4) dNil))) (dOp2 fIx (dOp2 fIx (dVar 1) (dC (.int 0))) (dVar 5))))) (dSeq (dLset (dVar 4) (dVar 2) (dVar 5))
  dNx) dNx)
  (dSeq (dRet (dOp2 fEq (dOp2 fIx (dVar 2) (dVar 5)) (dVar 4)))
  dNx))) dNx)
  (dSeq (dIf (dTv (dOp2 fEq (dOp2 fIx (dVar 3) (dC (.int 0))) (dC (.str "name")))) (dSeq (dRet (dOp2 fEq (dVar 3) (dVar 4)))
  dNx) dNx)
  (dSeq (dRet (dAndV (dOp2 fEq (dOp2 fIx (dVar 4) (dC (.int 0))) (dC (.str "made"))) (dOp2 fEq (dOp2 fIx (dVar 4) (dC (.int 1))) (dOp2 fIx (dVar 3) (dC (.int 1))))))
  dNx)))
def f_fits_at : Fn := mkFn true 6 d_fits_at
def d_fitting : Ds := (dSeq (dSet 3 (dOp2 (fMul true) (dLst false (dCons (dC .non) dNil)) (dOpL fLen (dCons (dOp2 fIx (dVar 1) (dC (.int 0))) dNil))))
  (dSeq (dSet 4 (dLst true (dCons (dTup (dCons (dOp2 fIx (dVar 1) (dC (.int 1))) (dCons (dVar 2) dNil))) dNil)))
  (dSeq (dWhile (dTv (dOp2 fNe (dVar 4) (dLst false dNil))) (dSeq (dUnp (gT 2 (gC (gNm 5) (gC (gNm 6) gN))) (dBm isL fPop (dVar 4) dNil))
  (dSeq (dIf (dNot (dTv (dCall f_fits_at 5 [] (dCons (dVar 0) (dCons (dVar 1) (dCons (dVar 3) (dCons (dVar 5) (dCons (dVar 6) dNil)))))))) (dSeq (dRet (dC .non))
  dNx) dNx)
  (dSeq (dIf (dTv (dOp2 fEq (dOp2 fIx (dVar 5) (dC (.int 0))) (dC (.str "made")))) (dSeq (dExp (dBm isL fExtend (dVar 4) (dCons (dOpL (fZipL false) (dCons (dOp2 fIx (dVar 5) (dC (.int 2))) (dCons (dOp2 fIx (dVar 6) (dC (.int 2))) dNil))) dNil)))
  dNx) dNx)
  dNx))) 400)
  (dSeq (dRet (dOpL fTupOf (dCons (dVar 3) dNil)))
  dNx))))
def f_fitting : Fn := mkFn true 7 d_fitting
def d_filled (rec : Fn) : Ds := (dSeq (dIf (dTv (dOp2 fEq (dOp2 fIx (dVar 0) (dC (.int 0))) (dC (.str "bound")))) (dSeq (dRet (dOp2 fIx (dVar 1) (dOp2 fIx (dVar 0) (dC (.int 1)))))
  dNx) dNx)
  (dSeq (dIf (dTv (dOp2 fEq (dOp2 fIx (dVar 0) (dC (.int 0))) (dC (.str "name")))) (dSeq (dRet (dVar 0))
  dNx) dNx)
  (dSeq (dSet 2 (dLst true dNil))
  (dSeq (dFor (dSeqI (dOp2 fIx (dVar 0) (dC (.int 2)))) (gNm 3) (dSeq (dExp (dBm isL fAppend (dVar 2) (dCons (dCall rec 2 [] (dCons (dVar 3) (dCons (dVar 1) dNil))) dNil)))
  dNx))
  (dSeq (dRet (dTup (dCons (dC (.str "made")) (dCons (dOp2 fIx (dVar 0) (dC (.int 1))) (dCons (dOpL fTupOf (dCons (dVar 2) dNil)) dNil)))))
  dNx)))))
def f_filled : Nat → Fn
  | 0 => mkFn true 4 dBad
  | n + 1 => mkFn true 4 (d_filled (f_filled n))
def d_need : Ds := (dSeq (dIf (dNot (dTv (dVar 0))) (dSeq dBad
  dNx) dNx)
  dNx)
def f_need : Fn := mkFn true 1 d_need
def d_is_list_of_texts : Ds := (dSeq (dRet (dAndV (dOpL fIsi (dCons (dVar 0) (dCons (dC (.ty "list")) dNil))) (dAndV (dOp2 fLe (dOpL fLen (dCons (dVar 0) dNil)) (dVar 1)) (dOpL fAll (dCons (dComp false [2] (dSeqI (dVar 0)) (gNm 2) dYes (dOpL fIsi (dCons (dVar 2) (dCons (dC (.ty "str")) dNil)))) dNil)))))
  dNx)
def f_is_list_of_texts : Fn := mkFn true 3 d_is_list_of_texts
def d_Ground_is_new : Ds := (dSeq (dIf (dNot (dTv (dCall f_is_told_name 1 [] (dCons (dVar 1) dNil)))) (dSeq (dRet (dC (.bl false)))
  dNx) dNx)
  (dSeq (dRet (dAndV (dOp2 (fIn true) (dVar 1) (dAtt "makers_row" okG (dVar 0))) (dOp2 (fIn true) (dVar 1) (dAtt "takes_row" okG (dVar 0)))))
  dNx))
def f_Ground_is_new : Fn := mkFn true 2 d_Ground_is_new
def mt_is_new : Str → Option (Nat × Fn) := mt1 "Ground" 2 f_Ground_is_new
def d_Ground_is_open : Ds := (dSeq (dIf (dTv (dMeth "is_kind" mt_is_kind (dVar 0) (dCons (dVar 1) dNil))) (dSeq (dRet (dOp2 fEq (dOp2 fIx (dAtt "makers_row" okG (dVar 0)) (dVar 1)) (dLst false dNil)))
  dNx) dNx)
  (dSeq (dRet (dAndV (dMeth "is_work" mt_is_work (dVar 0) (dCons (dVar 1) dNil)) (dOp2 fEq (dOp2 fIx (dAtt "rights_row" okG (dVar 0)) (dVar 1)) (dLst false dNil))))
  dNx))
def f_Ground_is_open : Fn := mkFn true 2 d_Ground_is_open
def mt_is_open : Str → Option (Nat × Fn) := mt1 "Ground" 2 f_Ground_is_open
def d_Ground_check_right : Ds := (dSeq (dExp (dCall f_need 1 [] (dCons (dAndV (dOp2 fEq (dCall (f_kind_or_none 12) 2 [] (dCons (dVar 0) (dCons (dVar 1) dNil))) (dVar 2)) (dOp2 fLe (dCall f_signs_of 1 [] (dCons (dVar 1) dNil)) (dC c_MOST_IN_RIGHT))) dNil)))
  (dSeq (dExp (dCall f_need 1 [] (dCons (dOpL fAll (dCons (dComp false [4] (dSeqI (dCall f_names_of 1 [] (dCons (dVar 1) dNil))) (gNm 4) dYes (dOp2 (fIn false) (dVar 4) (dVar 3))) dNil)) dNil)))
  (dSeq (dExp (dCall f_need 1 [] (dCons (dNotV (dOpL fAny (dCons (dComp false [4] (dSeqI (dCall f_all_within 1 [] (dCons (dVar 1) dNil))) (gNm 4) dYes (dAndV (dOp2 fEq (dOp2 fIx (dVar 4) (dC (.int 0))) (dC (.str "made"))) (dMeth "is_open" mt_is_open (dVar 0) (dCons (dOp2 fIx (dVar 4) (dC (.int 1))) dNil)))) dNil))) dNil)))
  dNx)))
def f_Ground_check_right : Fn := mkFn true 5 d_Ground_check_right
def mt_check_right : Str → Option (Nat × Fn) := mt1 "Ground" 4 f_Ground_check_right
def d_Ground_check_falling : Ds := (dSeq (dSet 4 (dOp2 fIx (dAtt "falls_row" okG (dVar 0)) (dVar 1)))
  (dSeq (dSet 5 (dOpL (fZipL false) (dCons (dC c_INNER) (dCons (dOp2 fIx (dAtt "takes_row" okG (dVar 0)) (dVar 3)) dNil))))
  (dSeq (dSet 6 (dOpL (fZipL true) (dCons (dC c_OUTER) (dCons (dOp2 fIx (dAtt "takes_row" okG (dVar 0)) (dVar 1)) dNil))))
  (dSeq (dExp (dBm isL fPopAt (dVar 6) (dCons (dVar 4) dNil)))
  (dSeq (dExp (dMeth "check_right" mt_check_right (dVar 0) (dCons (dVar 2) (dCons (dOp2 fIx (dAtt "gives_row" okG (dVar 0)) (dVar 1)) (dCons (dOp2 (fAdd false) (dVar 6) (dVar 5)) dNil)))))
  (dSeq (dFor (dSeqI (dCall f_all_within 1 [] (dCons (dVar 2) dNil))) (gNm 7) (dSeq (dIf (dAnd (dTv (dOp2 fEq (dOp2 fIx (dVar 7) (dC (.int 0))) (dC (.str "made")))) (dTv (dOp2 fEq (dOp2 fIx (dVar 7) (dC (.int 1))) (dVar 1)))) (dSeq (dSet 8 (dOp2 fIx (dOp2 fIx (dVar 7) (dC (.int 2))) (dVar 4)))
  (dSeq (dExp (dCall f_need 1 [] (dCons (dAndV (dOp2 fEq (dOp2 fIx (dVar 8) (dC (.int 0))) (dC (.str "name"))) (dOp2 (fIn false) (dSl false (dVar 8) (dPart (dC (.int 1))) dNoPart) (dVar 5))) dNil)))
  dNx)) dNx)
  dNx))
  dNx))))))
def f_Ground_check_falling : Fn := mkFn true 9 d_Ground_check_falling
def mt_check_falling : Str → Option (Nat × Fn) := mt1 "Ground" 4 f_Ground_check_falling
def d_Ground_add_kind : Ds := (dSeq (dExp (dCall f_need 1 [] (dCons (dAndV (dOpL fIsi (dCons (dVar 1) (dCons (dC (.ty "tuple")) dNil))) (dAndV (dOp2 fEq (dOpL fLen (dCons (dVar 1) dNil)) (dC (.int 2))) (dMeth "is_new" mt_is_new (dVar 0) (dCons (dOp2 fIx (dVar 1) (dC (.int 0))) dNil)))) dNil)))
  (dSeq (dSet 2 (dOp2 fIx (dVar 1) (dC (.int 0))))
  (dSeq (dExp (dCall f_need 1 [] (dCons (dAndV (dOpL fIsi (dCons (dOp2 fIx (dVar 1) (dC (.int 1))) (dCons (dC (.ty "list")) dNil))) (dOp2 fLe (dOpL fLen (dCons (dOp2 fIx (dVar 1) (dC (.int 1))) dNil)) (dC c_MOST_MAKERS))) dNil)))
  (dSeq (dSet 3 (dOp2 (fAdd false) (dKeys 0 5 "makers_row" okG) (dLst false (dCons (dVar 2) dNil))))
  (dSeq (dDput (dLst true dNil) (dAtt "makers_row" okG (dVar 0)) (dVar 2))
  (dSeq (dFor (dSeqI (dOp2 fIx (dVar 1) (dC (.int 1)))) (gNm 4) (dSeq (dExp (dCall f_need 1 [] (dCons (dAndV (dOpL fIsi (dCons (dVar 4) (dCons (dC (.ty "tuple")) dNil))) (dAndV (dOp2 fEq (dOpL fLen (dCons (dVar 4) dNil)) (dC (.int 2))) (dMeth "is_new" mt_is_new (dVar 0) (dCons (dOp2 fIx (dVar 4) (dC (.int 0))) dNil)))) dNil)))
  (dSeq (dExp (dCall f_need 1 [] (dCons (dAndV (dCall f_is_list_of_texts 2 [] (dCons (dOp2 fIx (dVar 4) (dC (.int 1))) (dCons (dC c_MOST_TAKEN) dNil))) (dOpL fAll (dCons (dComp false [5] (dSeqI (dOp2 fIx (dVar 4) (dC (.int 1)))) (gNm 5) dYes (dOp2 (fIn false) (dVar 5) (dVar 3))) dNil))) dNil)))
  (dSeq (dExp (dBm isL fAppend (dOp2 fIx (dAtt "makers_row" okG (dVar 0)) (dVar 2)) (dCons (dOp2 fIx (dVar 4) (dC (.int 0))) dNil)))
  (dSeq (dDput (dOpL fTupOf (dCons (dOp2 fIx (dVar 4) (dC (.int 1))) dNil)) (dAtt "takes_row" okG (dVar 0)) (dOp2 fIx (dVar 4) (dC (.int 0))))
  (dSeq (dDput (dVar 2) (dAtt "gives_row" okG (dVar 0)) (dOp2 fIx (dVar 4) (dC (.int 0))))
  (dSeq (dDput (dC (.bl true)) (dAtt "maker_names" okG (dVar 0)) (dOp2 fIx (dVar 4) (dC (.int 0))))
  dNx)))))))
  (dSeq (dExp (dCall f_need 1 [] (dCons (dOrV (dOp2 fEq (dOp2 fIx (dVar 1) (dC (.int 1))) (dLst false dNil)) (dOpL fAny (dCons (dComp false [6] (dSeqI (dOp2 fIx (dAtt "makers_row" okG (dVar 0)) (dVar 2))) (gNm 6) dYes (dOp2 (fIn true) (dVar 2) (dOp2 fIx (dAtt "takes_row" okG (dVar 0)) (dVar 6)))) dNil))) dNil)))
  dNx)))))))
def f_Ground_add_kind : Fn := mkFn false 7 d_Ground_add_kind
def mt_add_kind : Str → Option (Nat × Fn) := mt1 "Ground" 2 f_Ground_add_kind
def d_Ground_add_work : Ds := (dSeq (dExp (dCall f_need 1 [] (dCons (dAndV (dOpL fIsi (dCons (dVar 1) (dCons (dC (.ty "tuple")) dNil))) (dAndV (dOp2 fEq (dOpL fLen (dCons (dVar 1) dNil)) (dC (.int 5))) (dMeth "is_new" mt_is_new (dVar 0) (dCons (dOp2 fIx (dVar 1) (dC (.int 0))) dNil)))) dNil)))
  (dSeq (dUnp (gT 5 (gC (gNm 2) (gC (gNm 3) (gC (gNm 4) (gC (gNm 5) (gC (gNm 6) gN)))))) (dVar 1))
  (dSeq (dExp (dCall f_need 1 [] (dCons (dAndV (dCall f_is_list_of_texts 2 [] (dCons (dVar 3) (dCons (dC c_MOST_TAKEN) dNil))) (dOpL fAll (dCons (dComp false [10] (dSeqI (dVar 3)) (gNm 10) dYes (dOp2 (fIn false) (dVar 10) (dAtt "makers_row" okG (dVar 0)))) dNil))) dNil)))
  (dSeq (dExp (dCall f_need 1 [] (dCons (dAndV (dMeth "is_kind" mt_is_kind (dVar 0) (dCons (dVar 4) dNil)) (dOpL fIsi (dCons (dVar 6) (dCons (dC (.ty "list")) dNil)))) dNil)))
  (dSeq (dIf (dTv (dOp2 fIs (dVar 5) (dC .non))) (dSeq (dExp (dCall f_need 1 [] (dCons (dOp2 fLe (dOpL fLen (dCons (dVar 6) dNil)) (dC (.int 1))) dNil)))
  (dSeq (dFor (dSeqI (dVar 6)) (gNm 7) (dSeq (dExp (dMeth "check_right" mt_check_right (dVar 0) (dCons (dVar 7) (dCons (dVar 4) (dCons (dOpL (fZipL false) (dCons (dC c_OUTER) (dCons (dVar 3) dNil))) dNil)))))
  dNx))
  dNx)) dNx)
  (dSeq (dDput (dOpL fTupOf (dCons (dVar 3) dNil)) (dAtt "takes_row" okG (dVar 0)) (dVar 2))
  (dSeq (dDput (dVar 4) (dAtt "gives_row" okG (dVar 0)) (dVar 2))
  (dSeq (dDput (dVar 5) (dAtt "falls_row" okG (dVar 0)) (dVar 2))
  (dSeq (dDput (dOpL (fListOf false) (dCons (dVar 6) dNil)) (dAtt "rights_row" okG (dVar 0)) (dVar 2))
  (dSeq (dIf (dTv (dOp2 fIsNot (dVar 5) (dC .non))) (dSeq (dExp (dCall f_need 1 [] (dCons (dAndV (dOpL fIsi (dCons (dVar 5) (dCons (dC (.ty "int")) dNil))) (dAndV (dNotV (dOpL fIsi (dCons (dVar 5) (dCons (dC (.ty "bool")) dNil)))) (dChn fLe fLt (dC (.int 0)) (dVar 5) (dOpL fLen (dCons (dVar 3) dNil))))) dNil)))
  (dSeq (dSet 8 (dOp2 fIx (dAtt "makers_row" okG (dVar 0)) (dOp2 fIx (dVar 3) (dVar 5))))
  (dSeq (dExp (dCall f_need 1 [] (dCons (dAndV (dOp2 fNe (dVar 8) (dLst false dNil)) (dOp2 fEq (dOpL fLen (dCons (dVar 6) dNil)) (dOpL fLen (dCons (dVar 8) dNil)))) dNil)))
  (dSeq (dFor (dZip (dCons (dVar 6) (dCons (dVar 8) dNil))) (gT 2 (gC (gNm 7) (gC (gNm 9) gN))) (dSeq (dExp (dMeth "check_falling" mt_check_falling (dVar 0) (dCons (dVar 2) (dCons (dVar 7) (dCons (dVar 9) dNil)))))
  dNx))
  dNx)))) dNx)
  dNx))))))))))
def f_Ground_add_work : Fn := mkFn true 11 d_Ground_add_work
def mt_add_work : Str → Option (Nat × Fn) := mt1 "Ground" 2 f_Ground_add_work
def d_Ground___init__ : Ds := (dSeq (dFset "makers_row" okG (dDic0 true) (dVar 0))
  (dSeq (dFset "takes_row" okG (dDic0 true) (dVar 0))
  (dSeq (dFset "gives_row" okG (dDic0 true) (dVar 0))
  (dSeq (dFset "maker_names" okG (dDic0 true) (dVar 0))
  (dSeq (dFset "falls_row" okG (dDic0 true) (dVar 0))
  (dSeq (dFset "rights_row" okG (dDic0 true) (dVar 0))
  (dSeq (dExp (dCall f_need 1 [] (dCons (dAndV (dOpL fIsi (dCons (dVar 1) (dCons (dC (.ty "list")) dNil))) (dOp2 fLe (dOpL fLen (dCons (dVar 1) dNil)) (dC c_MOST_KINDS))) dNil)))
  (dSeq (dExp (dCall f_need 1 [] (dCons (dAndV (dOpL fIsi (dCons (dVar 2) (dCons (dC (.ty "list")) dNil))) (dOp2 fLe (dOpL fLen (dCons (dVar 2) dNil)) (dC c_MOST_WORKS))) dNil)))
  (dSeq (dFor (dSeqI (dVar 1)) (gNm 3) (dSeq (dExp (dMeth "add_kind" mt_add_kind (dVar 0) (dCons (dVar 3) dNil)))
  dNx))
  (dSeq (dFor (dSeqI (dVar 2)) (gNm 3) (dSeq (dExp (dMeth "add_work" mt_add_work (dVar 0) (dCons (dVar 3) dNil)))
  dNx))
  dNx))))))))))
def f_Ground___init__ : Fn := mkFn false 4 d_Ground___init__
def d__law_cell_at : Ds := (dSeq (dIf (dTv (dOp2 fLt (dVar 1) (dOpL fLen (dCons (dVar 0) dNil)))) (dSeq (dRet (dOp2 fIx (dVar 0) (dVar 1)))
  dNx) dNx)
  (dSeq (dRet (dC (.int 0)))
  dNx))
def f__law_cell_at : Fn := mkFn true 2 d__law_cell_at
def d__law_mix : Ds := (dSeq (dSet 0 (dOp2 fMod (dOp2 (fAdd false) (dOp2 (fMul false) (dOp2 fMod (dVar 0) (dC (.int 2147483647))) (dC (.int 48271))) (dC (.int 69621))) (dC (.int 2147483647))))
  (dSeq (dRet (dOp2 fMod (dOp2 (fMul false) (dVar 0) (dVar 0)) (dC (.int 2147483629))))
  dNx))
def f__law_mix : Fn := mkFn true 1 d__law_mix
def d__law_source : Ds := (dSeq (dSet 2 (dCall f__law_cell_at 2 [] (dCons (dVar 0) (dCons (dVar 1) dNil))))
  (dSeq (dIf (dTv (dOp2 fGe (dVar 2) (dOp2 fPow (dC (.int 10)) (dC (.int 18))))) (dSeq (dRet (dLst true (dCons (dVar 2) (dCons (dCall f__law_mix 1 [] (dCons (dOp2 (fAdd false) (dVar 2) (dVar 1)) dNil)) dNil))))
  dNx) dNx)
  (dSeq (dRet (dLst true (dCons (dC (.int 0)) (dCons (dCall f__law_mix 1 [] (dCons (dOp2 (fAdd false) (dCall f__law_mix 1 [] (dCons (dOp2 (fAdd false) (dVar 2) (dOp2 (fMul false) (dC (.int 7919)) (dVar 1))) dNil)) (dVar 1)) dNil)) dNil))))
  dNx)))
def f__law_source : Fn := mkFn false 3 d__law_source
def d__law_take : Ds := (dSeq (dIf (dTv (dOp2 fGt (dOp2 fIx (dVar 0) (dC (.int 0))) (dC (.int 0)))) (dSeq (dSet 2 (dOp2 fMod (dOp2 fIx (dVar 0) (dC (.int 0))) (dVar 1)))
  (dSeq (dLset (dOp2 fDiv (dOp2 fIx (dVar 0) (dC (.int 0))) (dVar 1)) (dVar 0) (dC (.int 0)))
  (dSeq (dRet (dVar 2))
  dNx))) dNx)
  (dSeq (dLset (dCall f__law_mix 1 [] (dCons (dOp2 (fAdd false) (dOp2 fIx (dVar 0) (dC (.int 1))) (dC (.int 1))) dNil)) (dVar 0) (dC (.int 1)))
  (dSeq (dRet (dOp2 fMod (dOp2 fDiv (dOp2 fIx (dVar 0) (dC (.int 1))) (dC (.int 7))) (dVar 1)))
  dNx)))
def f__law_take : Fn := mkFn true 3 d__law_take
def d__law_kinds : Ds := (dSeq (dSet 0 (dLst false (dCons (dTup (dCons (dC (.str "bit")) (dCons (dLst false (dCons (dTup (dCons (dC (.str "off")) (dCons (dLst false dNil) dNil))) (dCons (dTup (dCons (dC (.str "on")) (dCons (dLst false dNil) dNil))) dNil))) dNil))) (dCons (dTup (dCons (dC (.str "num")) (dCons (dLst false (dCons (dTup (dCons (dC (.str "zero")) (dCons (dLst false dNil) dNil))) (dCons (dTup (dCons (dC (.str "next")) (dCons (dLst false (dCons (dC (.str "num")) dNil)) dNil))) dNil))) dNil))) dNil))))
  (dSeq (dRet (dOp2 (fAdd false) (dVar 0) (dLst false (dCons (dTup (dCons (dC (.str "row")) (dCons (dLst false (dCons (dTup (dCons (dC (.str "none")) (dCons (dLst false dNil) dNil))) (dCons (dTup (dCons (dC (.str "put")) (dCons (dLst false (dCons (dC (.str "num")) (dCons (dC (.str "row")) dNil))) dNil))) dNil))) dNil))) (dCons (dTup (dCons (dC (.str "thing")) (dCons (dLst false dNil) dNil))) dNil)))))
  dNx))
def f__law_kinds : Fn := mkFn true 1 d__law_kinds
def d__law_makers : Ds := (dSeq (dRet (dOp2 fIx (dOpL (fDictOf false) (dCons (dCall f__law_kinds 0 [] dNil) dNil)) (dVar 0)))
  dNx)
def f__law_makers : Fn := mkFn true 1 d__law_makers
def d__law_makes : Ds := (dSeq (dSet 1 (dLst false (dCons (dTup (dCons (dC (.str "next")) (dCons (dLst false (dCons (dC (.str "num")) dNil)) (dCons (dC (.str "num")) dNil)))) (dCons (dTup (dCons (dC (.str "put")) (dCons (dLst false (dCons (dC (.str "num")) (dCons (dC (.str "row")) dNil))) (dCons (dC (.str "row")) dNil)))) dNil))))
  (dSeq (dRet (dOp2 (fAdd false) (dVar 1) (dComp false [2] (dSeqI (dVar 0)) (gNm 2) dYes (dTup (dCons (dOp2 fIx (dVar 2) (dC (.int 0))) (dCons (dOp2 fIx (dVar 2) (dC (.int 1))) (dCons (dOp2 fIx (dVar 2) (dC (.int 2))) dNil)))))))
  dNx))
def f__law_makes : Fn := mkFn true 3 d__law_makes
def d__law_atoms : Ds := (dSeq (dSet 2 (dComp false [3] (dSeqI (dVar 1)) (gNm 3) (dTv (dOp2 fEq (dOp2 fIx (dVar 3) (dC (.int 2))) (dVar 0))) (dVar 3)))
  (dSeq (dSet 2 (dOp2 (fAdd false) (dVar 2) (dComp false [4, 5] (dSeqI (dCall f__law_makers 1 [] (dCons (dVar 0) dNil))) (gT 2 (gC (gNm 4) (gC (gNm 5) gN))) (dTv (dOp2 fEq (dVar 5) (dLst false dNil))) (dTup (dCons (dC (.str "made")) (dCons (dVar 4) (dCons (dTup dNil) dNil)))))))
  (dSeq (dIf (dTv (dOp2 fEq (dVar 2) (dLst false dNil))) (dSeq (dSet 2 (dLst false (dCons (dTup (dCons (dC (.str "name")) (dCons (dC (.str "t")) (dCons (dVar 0) dNil)))) dNil)))
  dNx) dNx)
  (dSeq (dRet (dVar 2))
  dNx))))
def f__law_atoms : Fn := mkFn true 6 d__law_atoms
def d__law_own : Ds := (dSeq (dIf (dOr (dTv (dOp2 fIs (dVar 0) (dC .non))) (dOr (dTv (dOp2 fNe (dOp2 fIx (dVar 0) (dC (.int 2))) (dVar 1))) (dOr (dTv (dOp2 fEq (dOp2 fIx (dVar 0) (dC (.int 4))) (dLst false dNil))) (dTv (dOp2 fLt (dVar 2) (dC (.int 1))))))) (dSeq (dRet (dLst false dNil))
  dNx) dNx)
  (dSeq (dRet (dLst false (dCons (dSl false (dVar 0) dNoPart (dPart (dC (.int 3)))) (dCons (dSl false (dVar 0) dNoPart (dPart (dC (.int 3)))) dNil))))
  dNx))
def f__law_own : Fn := mkFn true 3 d__law_own
def d__law_term (rec : Fn) : Ds := (dSeq (dSet 6 (dCall f__law_atoms 2 [] (dCons (dVar 1) (dCons (dVar 2) dNil))))
  (dSeq (dSet 7 (dOp2 (fAdd false) (dComp false [16] (dSeqI (dCall f__law_makes 1 [] (dCons (dVar 3) dNil))) (gNm 16) (dAnd (dTv (dOp2 fGt (dVar 4) (dC (.int 0)))) (dTv (dOp2 fEq (dOp2 fIx (dVar 16) (dC (.int 2))) (dVar 1)))) (dVar 16)) (dCall f__law_own 3 [] (dCons (dVar 5) (dCons (dVar 1) (dCons (dVar 4) dNil))))))
  (dSeq (dSet 8 (dCall f__law_take 2 [] (dCons (dVar 0) (dCons (dOp2 (fAdd false) (dOpL fLen (dCons (dVar 6) dNil)) (dOp2 (fMul false) (dC (.int 2)) (dOpL fLen (dCons (dVar 7) dNil)))) dNil))))
  (dSeq (dIf (dTv (dOp2 fLt (dVar 8) (dOpL fLen (dCons (dVar 6) dNil)))) (dSeq (dRet (dOp2 fIx (dVar 6) (dVar 8)))
  dNx) dNx)
  (dSeq (dUnp (gT 3 (gC (gNm 9) (gC (gNm 10) (gC (gNm 11) gN)))) (dOp2 fIx (dVar 7) (dOp2 fDiv (dOp2 fSub (dVar 8) (dOpL fLen (dCons (dVar 6) dNil))) (dC (.int 2)))))
  (dSeq (dSet 12 (dLst true dNil))
  (dSeq (dFor (dEnum (dCons (dVar 10) dNil)) (gT 2 (gC (gNm 13) (gC (gNm 14) gN))) (dSeq (dSet 15 (dCall rec 6 [] (dCons (dVar 0) (dCons (dVar 14) (dCons (dVar 2) (dCons (dVar 3) (dCons (dOp2 fSub (dVar 4) (dC (.int 1))) (dCons (dVar 5) dNil))))))))
  (dSeq (dIf (dAnd (dTv (dOp2 fIsNot (dVar 5) (dC .non))) (dAnd (dTv (dOp2 fEq (dVar 9) (dOp2 fIx (dVar 5) (dC (.int 0))))) (dTv (dOp2 fEq (dVar 13) (dOp2 fIx (dVar 5) (dC (.int 3))))))) (dSeq (dSet 15 (dOp2 fIx (dOp2 fIx (dVar 5) (dC (.int 4))) (dCall f__law_take 2 [] (dCons (dVar 0) (dCons (dOpL fLen (dCons (dOp2 fIx (dVar 5) (dC (.int 4))) dNil)) dNil)))))
  dNx) dNx)
  (dSeq (dExp (dBm isL fAppend (dVar 12) (dCons (dVar 15) dNil)))
  dNx))))
  (dSeq (dRet (dTup (dCons (dC (.str "made")) (dCons (dVar 9) (dCons (dOpL fTupOf (dCons (dVar 12) dNil)) dNil)))))
  dNx))))))))
def f__law_term : Nat → Fn
  | 0 => mkFn true 17 dBad
  | n + 1 => mkFn true 17 (d__law_term (f__law_term n))
def d__law_work : Ds := (dSeq (dSet 3 (dComp false [14] (dRng1 (dCons (dOp2 (fAdd false) (dC (.int 1)) (dCall f__law_take 2 [] (dCons (dVar 0) (dCons (dC (.int 3)) dNil)))) dNil)) (gNm 14) dYes (dOp2 fIx (dLst false (dCons (dC (.str "bit")) (dCons (dC (.str "num")) (dCons (dC (.str "row")) dNil)))) (dCall f__law_take 2 [] (dCons (dVar 0) (dCons (dC (.int 3)) dNil))))))
  (dSeq (dSet 4 (dOp2 fIx (dLst false (dCons (dC (.str "bit")) (dCons (dC (.str "num")) (dCons (dC (.str "row")) dNil)))) (dCall f__law_take 2 [] (dCons (dVar 0) (dCons (dC (.int 3)) dNil)))))
  (dSeq (dSet 5 (dCall f__law_take 2 [] (dCons (dVar 0) (dCons (dC (.int 6)) dNil))))
  (dSeq (dSet 6 (dComp false [14] (dRng1 (dCons (dOpL fLen (dCons (dVar 3) dNil)) dNil)) (gNm 14) dYes (dTup (dCons (dC (.str "name")) (dCons (dOp2 (fAdd false) (dC (.str "x")) (dOp2 fIx (dC (.str "abc")) (dVar 14))) (dCons (dOp2 fIx (dVar 3) (dVar 14)) dNil))))))
  (dSeq (dSet 7 (dComp false [15] (dSeqI (dVar 2)) (gNm 15) (dTv (dOp2 fNe (dOp2 fIx (dVar 15) (dC (.int 4))) (dLst false dNil))) (dVar 15)))
  (dSeq (dIf (dTv (dOp2 fEq (dVar 5) (dC (.int 0)))) (dSeq (dRet (dTup (dCons (dVar 1) (dCons (dVar 3) (dCons (dVar 4) (dCons (dC .non) (dCons (dLst false dNil) dNil)))))))
  dNx) dNx)
  (dSeq (dIf (dTv (dOp2 fEq (dVar 5) (dC (.int 1)))) (dSeq (dRet (dTup (dCons (dVar 1) (dCons (dVar 3) (dCons (dVar 4) (dCons (dC .non) (dCons (dLst false (dCons (dCall (f__law_term 6) 6 [.non] (dCons (dVar 0) (dCons (dVar 4) (dCons (dVar 6) (dCons (dVar 7) (dCons (dC (.int 2)) dNil)))))) dNil)) dNil)))))))
  dNx) dNx)
  (dSeq (dSet 8 (dCall f__law_take 2 [] (dCons (dVar 0) (dCons (dOpL fLen (dCons (dVar 3) dNil)) dNil))))
  (dSeq (dSet 9 (dLst true dNil))
  (dSeq (dFor (dSeqI (dCall f__law_makers 1 [] (dCons (dOp2 fIx (dVar 3) (dVar 8)) dNil))) (gT 2 (gC (gNm 10) (gC (gNm 11) gN))) (dSeq (dSet 12 (dComp false [14] (dRng1 (dCons (dOpL fLen (dCons (dVar 11) dNil)) dNil)) (gNm 14) dYes (dTup (dCons (dC (.str "name")) (dCons (dOp2 (fAdd false) (dC (.str "y")) (dOp2 fIx (dC (.str "ab")) (dVar 14))) (dCons (dOp2 fIx (dVar 11) (dVar 14)) dNil))))))
  (dSeq (dSet 13 (dTup (dCons (dVar 1) (dCons (dVar 3) (dCons (dVar 4) (dCons (dVar 8) (dCons (dComp false [16] (dSeqI (dVar 12)) (gNm 16) (dTv (dOp2 fEq (dOp2 fIx (dVar 16) (dC (.int 2))) (dOp2 fIx (dVar 3) (dVar 8)))) (dVar 16)) dNil)))))))
  (dSeq (dExp (dBm isL fAppend (dVar 9) (dCons (dCall (f__law_term 6) 6 [] (dCons (dVar 0) (dCons (dVar 4) (dCons (dOp2 (fAdd false) (dOp2 (fAdd false) (dSl false (dVar 6) dNoPart (dPart (dVar 8))) (dSl false (dVar 6) (dPart (dOp2 (fAdd false) (dVar 8) (dC (.int 1)))) dNoPart)) (dVar 12)) (dCons (dVar 7) (dCons (dC (.int 2)) (dCons (dVar 13) dNil))))))) dNil)))
  dNx))))
  (dSeq (dRet (dTup (dCons (dVar 1) (dCons (dVar 3) (dCons (dVar 4) (dCons (dVar 8) (dCons (dVar 9) dNil)))))))
  dNx)))))))))))
def f__law_work : Fn := mkFn true 17 d__law_work
def d__law_works : Ds := (dSeq (dSet 1 (dLst true (dCons (dTup (dCons (dC (.str "grow")) (dCons (dLst false (dCons (dC (.str "thing")) dNil)) (dCons (dC (.str "thing")) (dCons (dC .non) (dCons (dLst false dNil) dNil)))))) (dCons (dTup (dCons (dC (.str "seen")) (dCons (dLst false (dCons (dC (.str "thing")) dNil)) (dCons (dC (.str "num")) (dCons (dC .non) (dCons (dLst false dNil) dNil)))))) dNil))))
  (dSeq (dFor (dSeqI (dSl false (dLst false (dCons (dC (.str "one")) (dCons (dC (.str "two")) (dCons (dC (.str "three")) (dCons (dC (.str "four")) dNil))))) dNoPart (dPart (dOp2 (fAdd false) (dC (.int 1)) (dCall f__law_take 2 [] (dCons (dVar 0) (dCons (dC (.int 4)) dNil))))))) (gNm 2) (dSeq (dExp (dBm isL fAppend (dVar 1) (dCons (dCall f__law_work 3 [] (dCons (dVar 0) (dCons (dVar 2) (dCons (dVar 1) dNil)))) dNil)))
  dNx))
  (dSeq (dRet (dVar 1))
  dNx)))
def f__law_works : Fn := mkFn true 3 d__law_works
def d__law_ground : Ds := (dSeq (dRet (dMake "Ground" f_Ground___init__ 3 [] (dCons (dCall f__law_kinds 0 [] dNil) (dCons (dComp false [1, 2, 3, 4, 5] (dSeqI (dVar 0)) (gT 5 (gC (gNm 1) (gC (gNm 2) (gC (gNm 3) (gC (gNm 4) (gC (gNm 5) gN)))))) dYes (dTup (dCons (dVar 1) (dCons (dOpL (fListOf false) (dCons (dVar 2) dNil)) (dCons (dVar 3) (dCons (dVar 4) (dCons (dOpL (fListOf false) (dCons (dVar 5) dNil)) dNil))))))) dNil))))
  dNx)
def f__law_ground : Fn := mkFn true 6 d__law_ground
def d__law_names : Ds := (dSeq (dSet 0 (dLst false (dCons (dTup (dCons (dC (.str "name")) (dCons (dC (.str "a")) (dCons (dC (.str "num")) dNil)))) (dCons (dTup (dCons (dC (.str "name")) (dCons (dC (.str "b")) (dCons (dC (.str "num")) dNil)))) (dCons (dTup (dCons (dC (.str "name")) (dCons (dC (.str "a")) (dCons (dC (.str "row")) dNil)))) (dCons (dTup (dCons (dC (.str "name")) (dCons (dC (.str "c")) (dCons (dC (.str "bit")) dNil)))) dNil))))))
  (dSeq (dRet (dOp2 (fAdd false) (dVar 0) (dLst false (dCons (dTup (dCons (dC (.str "name")) (dCons (dC (.str "d")) (dCons (dC (.str "thing")) dNil)))) dNil))))
  dNx))
def f__law_names : Fn := mkFn true 1 d__law_names
def d__law_slots : Ds := (dSeq (dSet 0 (dLst false (dCons (dTup (dCons (dC (.str "name")) (dCons (dC (.str "sa")) (dCons (dC (.str "num")) dNil)))) (dCons (dTup (dCons (dC (.str "name")) (dCons (dC (.str "sb")) (dCons (dC (.str "row")) dNil)))) (dCons (dTup (dCons (dC (.str "name")) (dCons (dC (.str "sc")) (dCons (dC (.str "num")) dNil)))) (dCons (dTup (dCons (dC (.str "name")) (dCons (dC (.str "sd")) (dCons (dC (.str "bit")) dNil)))) dNil))))))
  (dSeq (dRet (dOp2 (fAdd false) (dVar 0) (dLst false (dCons (dTup (dCons (dC (.str "name")) (dCons (dC (.str "se")) (dCons (dC (.str "thing")) dNil)))) dNil))))
  dNx))
def f__law_slots : Fn := mkFn true 1 d__law_slots
def d__law_bound (rec : Fn) : Ds := (dSeq (dIf (dTv (dOp2 (fIn false) (dVar 0) (dVar 1))) (dSeq (dRet (dTup (dCons (dC (.str "bound")) (dCons (dBm isL fIndex (dVar 1) (dCons (dVar 0) dNil)) dNil))))
  dNx) dNx)
  (dSeq (dIf (dTv (dOp2 fNe (dOp2 fIx (dVar 0) (dC (.int 0))) (dC (.str "made")))) (dSeq (dRet (dVar 0))
  dNx) dNx)
  (dSeq (dRet (dTup (dCons (dC (.str "made")) (dCons (dOp2 fIx (dVar 0) (dC (.int 1))) (dCons (dOpL fTupOf (dCons (dComp false [2] (dSeqI (dOp2 fIx (dVar 0) (dC (.int 2)))) (gNm 2) dYes (dCall rec 2 [] (dCons (dVar 2) (dCons (dVar 1) dNil)))) dNil)) dNil)))))
  dNx)))
def f__law_bound : Nat → Fn
  | 0 => mkFn true 3 dBad
  | n + 1 => mkFn true 3 (d__law_bound (f__law_bound n))
def d__law_put (rec : Fn) : Ds := (dSeq (dIf (dTv (dOp2 fEq (dOp2 fIx (dVar 0) (dC (.int 0))) (dC (.str "bound")))) (dSeq (dRet (dOp2 fIx (dVar 1) (dOp2 fIx (dVar 0) (dC (.int 1)))))
  dNx) dNx)
  (dSeq (dIf (dTv (dOp2 fEq (dOp2 fIx (dVar 0) (dC (.int 0))) (dC (.str "name")))) (dSeq (dRet (dVar 0))
  dNx) dNx)
  (dSeq (dRet (dTup (dCons (dC (.str "made")) (dCons (dOp2 fIx (dVar 0) (dC (.int 1))) (dCons (dOpL fTupOf (dCons (dComp false [2] (dSeqI (dOp2 fIx (dVar 0) (dC (.int 2)))) (gNm 2) dYes (dCall rec 2 [] (dCons (dVar 2) (dCons (dVar 1) dNil)))) dNil)) dNil)))))
  dNx)))
def f__law_put : Nat → Fn
  | 0 => mkFn true 3 dBad
  | n + 1 => mkFn true 3 (d__law_put (f__law_put n))
def d__law_all_parts (rec : Fn) : Ds := (dSeq (dSet 1 (dLst false (dCons (dVar 0) dNil)))
  (dSeq (dIf (dTv (dOp2 fEq (dOp2 fIx (dVar 0) (dC (.int 0))) (dC (.str "made")))) (dSeq (dFor (dSeqI (dOp2 fIx (dVar 0) (dC (.int 2)))) (gNm 2) (dSeq (dSet 1 (dOp2 (fAdd false) (dVar 1) (dCall rec 1 [] (dCons (dVar 2) dNil))))
  dNx))
  dNx) dNx)
  (dSeq (dRet (dVar 1))
  dNx)))
def f__law_all_parts : Nat → Fn
  | 0 => mkFn true 3 dBad
  | n + 1 => mkFn true 3 (d__law_all_parts (f__law_all_parts n))
def d__law_left : Ds := (dSeq (dSet 2 (dComp true [4] (dRng1 (dCons (dOpL fLen (dCons (dOp2 fIx (dVar 0) (dC (.int 1))) dNil)) dNil)) (gNm 4) dYes (dTup (dCons (dC (.str "name")) (dCons (dOp2 (fAdd false) (dC (.str "x")) (dOp2 fIx (dC (.str "abc")) (dVar 4))) (dCons (dOp2 fIx (dOp2 fIx (dVar 0) (dC (.int 1))) (dVar 4)) dNil))))))
  (dSeq (dIf (dTv (dOp2 fIsNot (dVar 1) (dC .non))) (dSeq (dSet 3 (dComp false [4] (dRng1 (dCons (dOpL fLen (dCons (dOp2 fIx (dVar 1) (dC (.int 1))) dNil)) dNil)) (gNm 4) dYes (dTup (dCons (dC (.str "name")) (dCons (dOp2 (fAdd false) (dC (.str "y")) (dOp2 fIx (dC (.str "ab")) (dVar 4))) (dCons (dOp2 fIx (dOp2 fIx (dVar 1) (dC (.int 1))) (dVar 4)) dNil))))))
  (dSeq (dLset (dTup (dCons (dC (.str "made")) (dCons (dOp2 fIx (dVar 1) (dC (.int 0))) (dCons (dOpL fTupOf (dCons (dVar 3) dNil)) dNil)))) (dVar 2) (dOp2 fIx (dVar 0) (dC (.int 3))))
  dNx)) dNx)
  (dSeq (dRet (dTup (dCons (dC (.str "made")) (dCons (dOp2 fIx (dVar 0) (dC (.int 0))) (dCons (dOpL fTupOf (dCons (dVar 2) dNil)) dNil)))))
  dNx)))
def f__law_left : Fn := mkFn true 5 d__law_left
def d__law_rule : Ds := (dSeq (dSet 2 (dLst true dNil))
  (dSeq (dFor (dSeqI (dOp2 fIx (dVar 0) (dC (.int 2)))) (gNm 3) (dSeq (dIf (dTv (dOp2 fEq (dOp2 fIx (dVar 3) (dC (.int 0))) (dC (.str "name")))) (dSeq (dExp (dBm isL fAppend (dVar 2) (dCons (dVar 3) dNil)))
  dNx) (dSeq (dSet 2 (dOp2 (fAdd true) (dVar 2) (dOpL (fListOf false) (dCons (dOp2 fIx (dVar 3) (dC (.int 2))) dNil))))
  dNx))
  dNx))
  (dSeq (dRet (dTup (dCons (dOpL fTupOf (dCons (dComp false [4] (dSeqI (dVar 2)) (gNm 4) dYes (dOp2 fIx (dVar 4) (dC (.int 2)))) dNil)) (dCons (dCall (f__law_bound 12) 2 [] (dCons (dVar 0) (dCons (dVar 2) dNil))) (dCons (dCall (f__law_bound 12) 2 [] (dCons (dVar 1) (dCons (dVar 2) dNil))) dNil)))))
  dNx)))
def f__law_rule : Fn := mkFn true 5 d__law_rule
def d__law_rules_of : Ds := (dSeq (dUnp (gT 5 (gC (gNm 1) (gC (gNm 2) (gC (gNm 3) (gC (gNm 4) (gC (gNm 5) gN)))))) (dVar 0))
  (dSeq (dIf (dTv (dOp2 fIs (dVar 4) (dC .non))) (dSeq (dRet (dComp false [8] (dSeqI (dVar 5)) (gNm 8) dYes (dCall f__law_rule 2 [] (dCons (dCall f__law_left 2 [] (dCons (dVar 0) (dCons (dC .non) dNil))) (dCons (dVar 8) dNil)))))
  dNx) dNx)
  (dSeq (dSet 6 (dCall f__law_makers 1 [] (dCons (dOp2 fIx (dVar 2) (dVar 4)) dNil)))
  (dSeq (dRet (dComp false [7] (dRng1 (dCons (dOpL fLen (dCons (dVar 5) dNil)) dNil)) (gNm 7) dYes (dCall f__law_rule 2 [] (dCons (dCall f__law_left 2 [] (dCons (dVar 0) (dCons (dOp2 fIx (dVar 6) (dVar 7)) dNil))) (dCons (dOp2 fIx (dVar 5) (dVar 7)) dNil)))))
  dNx))))
def f__law_rules_of : Fn := mkFn true 9 d__law_rules_of
def d__law_fits (rec : Fn) : Ds := (dSeq (dIf (dTv (dOp2 fEq (dOp2 fIx (dVar 0) (dC (.int 0))) (dC (.str "bound")))) (dSeq (dIf (dTv (dOp2 fIs (dOp2 fIx (dVar 2) (dOp2 fIx (dVar 0) (dC (.int 1)))) (dC .non))) (dSeq (dLset (dVar 1) (dVar 2) (dOp2 fIx (dVar 0) (dC (.int 1))))
  dNx) dNx)
  (dSeq (dRet (dOp2 fEq (dOp2 fIx (dVar 2) (dOp2 fIx (dVar 0) (dC (.int 1)))) (dVar 1)))
  dNx)) dNx)
  (dSeq (dIf (dOr (dTv (dOp2 fEq (dOp2 fIx (dVar 0) (dC (.int 0))) (dC (.str "name")))) (dOr (dTv (dOp2 fNe (dOp2 fIx (dVar 1) (dC (.int 0))) (dC (.str "made")))) (dTv (dOp2 fNe (dOp2 fIx (dVar 0) (dC (.int 1))) (dOp2 fIx (dVar 1) (dC (.int 1))))))) (dSeq (dRet (dOp2 fEq (dVar 0) (dVar 1)))
  dNx) dNx)
  (dSeq (dRet (dOpL fAll (dCons (dComp false [3, 4] (dZip (dCons (dOp2 fIx (dVar 0) (dC (.int 2))) (dCons (dOp2 fIx (dVar 1) (dC (.int 2))) dNil))) (gT 2 (gC (gNm 3) (gC (gNm 4) gN))) dYes (dCall rec 3 [] (dCons (dVar 3) (dCons (dVar 4) (dCons (dVar 2) dNil))))) dNil)))
  dNx)))
def f__law_fits : Nat → Fn
  | 0 => mkFn true 5 dBad
  | n + 1 => mkFn true 5 (d__law_fits (f__law_fits n))
def d__law_gives : Ds := (dSeq (dSet 1 (dOpL (fDictOf true) (dCons (dComp false [6] (dSeqI (dCall f__law_makes 1 [] (dCons (dVar 0) dNil))) (gNm 6) dYes (dTup (dCons (dOp2 fIx (dVar 6) (dC (.int 0))) (dCons (dOp2 fIx (dVar 6) (dC (.int 2))) dNil)))) dNil)))
  (dSeq (dFor (dSeqI (dCall f__law_kinds 0 [] dNil)) (gT 2 (gC (gNm 2) (gC (gNm 3) gN))) (dSeq (dFor (dSeqI (dVar 3)) (gT 2 (gC (gNm 4) (gC (gNm 5) gN))) (dSeq (dDput (dVar 2) (dVar 1) (dVar 4))
  dNx))
  dNx))
  (dSeq (dRet (dVar 1))
  dNx)))
def f__law_gives : Fn := mkFn true 7 d__law_gives
def d__law_kind_of : Ds := (dSeq (dIf (dTv (dOp2 fEq (dOp2 fIx (dVar 0) (dC (.int 0))) (dC (.str "name")))) (dSeq (dRet (dOp2 fIx (dVar 0) (dC (.int 2))))
  dNx) dNx)
  (dSeq (dRet (dOp2 fIx (dCall f__law_gives 1 [] (dCons (dVar 1) dNil)) (dOp2 fIx (dVar 0) (dC (.int 1)))))
  dNx))
def f__law_kind_of : Fn := mkFn true 2 d__law_kind_of
def d__law_drawn_rule : Ds := (dSeq (dSet 2 (dLst false dNil))
  (dSeq (dFor (dSeqI (dVar 1)) (gNm 3) (dSeq (dSet 2 (dOp2 (fAdd false) (dVar 2) (dCall f__law_rules_of 1 [] (dCons (dVar 3) dNil))))
  dNx))
  (dSeq (dIf (dAnd (dTv (dOp2 fNe (dVar 2) (dLst false dNil))) (dTv (dOp2 fEq (dCall f__law_take 2 [] (dCons (dVar 0) (dCons (dC (.int 3)) dNil))) (dC (.int 0))))) (dSeq (dRet (dOp2 fIx (dVar 2) (dCall f__law_take 2 [] (dCons (dVar 0) (dCons (dOpL fLen (dCons (dVar 2) dNil)) dNil)))))
  dNx) dNx)
  (dSeq (dSet 4 (dCall f__law_slots 0 [] dNil))
  (dSeq (dSet 5 (dCall f__law_makes 1 [] (dCons (dVar 1) dNil)))
  (dSeq (dUnp (gT 3 (gC (gNm 6) (gC (gNm 7) (gC (gNm 8) gN)))) (dOp2 fIx (dVar 5) (dCall f__law_take 2 [] (dCons (dVar 0) (dCons (dOpL fLen (dCons (dVar 5) dNil)) dNil)))))
  (dSeq (dSet 9 (dTup (dCons (dC (.str "made")) (dCons (dVar 6) (dCons (dOpL fTupOf (dCons (dComp false [13] (dSeqI (dVar 7)) (gNm 13) dYes (dCall (f__law_term 6) 6 [.non] (dCons (dVar 0) (dCons (dVar 13) (dCons (dOp2 (fAdd false) (dSl false (dCall f__law_names 0 [] dNil) dNoPart (dPart (dC (.int 2)))) (dVar 4)) (dCons (dVar 1) (dCons (dC (.int 1)) dNil))))))) dNil)) dNil)))))
  (dSeq (dSet 10 (dComp false [12] (dSeqI (dSl false (dCall (f__law_all_parts 12) 1 [] (dCons (dVar 9) dNil)) (dPart (dC (.int 1))) dNoPart)) (gNm 12) (dTv (dOp2 fEq (dCall f__law_kind_of 2 [] (dCons (dVar 12) (dCons (dVar 1) dNil))) (dVar 8))) (dVar 12)))
  (dSeq (dIf (dTv (dOp2 fEq (dVar 10) (dLst false dNil))) (dSeq (dSet 10 (dCall f__law_atoms 2 [] (dCons (dVar 8) (dCons (dLst false dNil) dNil))))
  dNx) dNx)
  (dSeq (dSet 11 (dOp2 fIx (dVar 10) (dCall f__law_take 2 [] (dCons (dVar 0) (dCons (dOpL fLen (dCons (dVar 10) dNil)) dNil)))))
  (dSeq (dRet (dTup (dCons (dOpL fTupOf (dCons (dComp false [14] (dSeqI (dVar 4)) (gNm 14) dYes (dOp2 fIx (dVar 14) (dC (.int 2)))) dNil)) (dCons (dCall (f__law_bound 12) 2 [] (dCons (dVar 9) (dCons (dVar 4) dNil))) (dCons (dCall (f__law_bound 12) 2 [] (dCons (dVar 11) (dCons (dVar 4) dNil))) dNil)))))
  dNx)))))))))))
def f__law_drawn_rule : Fn := mkFn true 15 d__law_drawn_rule
def d__law_spoilt (rec : Fn) : Ds := (dSeq (dIf (dAnd (dTv (dOp2 fEq (dOp2 fIx (dVar 1) (dC (.int 0))) (dC (.str "made")))) (dAnd (dTv (dOp2 fNe (dOp2 fIx (dVar 1) (dC (.int 2))) (dTup dNil))) (dTv (dOp2 fGt (dCall f__law_take 2 [] (dCons (dVar 0) (dCons (dC (.int 3)) dNil))) (dC (.int 0)))))) (dSeq (dSet 3 (dCall f__law_take 2 [] (dCons (dVar 0) (dCons (dOpL fLen (dCons (dOp2 fIx (dVar 1) (dC (.int 2))) dNil)) dNil))))
  (dSeq (dRet (dTup (dCons (dC (.str "made")) (dCons (dOp2 fIx (dVar 1) (dC (.int 1))) (dCons (dOp2 (fAdd false) (dOp2 (fAdd false) (dSl false (dOp2 fIx (dVar 1) (dC (.int 2))) dNoPart (dPart (dVar 3))) (dTup (dCons (dCall rec 3 [] (dCons (dVar 0) (dCons (dOp2 fIx (dOp2 fIx (dVar 1) (dC (.int 2))) (dVar 3)) (dCons (dVar 2) dNil)))) dNil))) (dSl false (dOp2 fIx (dVar 1) (dC (.int 2))) (dPart (dOp2 (fAdd false) (dVar 3) (dC (.int 1)))) dNoPart)) dNil)))))
  dNx)) dNx)
  (dSeq (dRet (dCall (f__law_term 6) 6 [.non] (dCons (dVar 0) (dCons (dCall f__law_kind_of 2 [] (dCons (dVar 1) (dCons (dVar 2) dNil))) (dCons (dCall f__law_names 0 [] dNil) (dCons (dVar 2) (dCons (dC (.int 1)) dNil)))))))
  dNx))
def f__law_spoilt : Nat → Fn
  | 0 => mkFn true 4 dBad
  | n + 1 => mkFn true 4 (d__law_spoilt (f__law_spoilt n))
def d__law_right_told : Ds := (dSeq (dUnp (gT 3 (gC (gNm 3) (gC (gNm 4) (gC (gNm 5) gN)))) (dVar 1))
  (dSeq (dSet 6 (dOp2 (fMul true) (dLst false (dCons (dC .non) dNil)) (dOpL fLen (dCons (dVar 3) dNil))))
  (dSeq (dSet 7 (dCall f_fitting 3 [] (dCons (dVar 0) (dCons (dVar 1) (dCons (dVar 2) dNil)))))
  (dSeq (dIf (dNot (dTv (dCall (f__law_fits 12) 3 [] (dCons (dVar 4) (dCons (dVar 2) (dCons (dVar 6) dNil)))))) (dSeq (dRet (dOp2 fIs (dVar 7) (dC .non)))
  dNx) dNx)
  (dSeq (dIf (dOr (dNot (dTv (dOpL fIsi (dCons (dVar 7) (dCons (dC (.ty "tuple")) dNil))))) (dTv (dOp2 fNe (dVar 7) (dOpL fTupOf (dCons (dVar 6) dNil))))) (dSeq (dRet (dC (.bl false)))
  dNx) dNx)
  (dSeq (dRet (dAndV (dOp2 fEq (dCall (f_filled 12) 2 [] (dCons (dVar 4) (dCons (dVar 7) dNil))) (dVar 2)) (dOp2 fEq (dCall (f_filled 12) 2 [] (dCons (dVar 5) (dCons (dVar 7) dNil))) (dCall (f__law_put 12) 2 [] (dCons (dVar 5) (dCons (dVar 6) dNil))))))
  dNx))))))
def f__law_right_told : Fn := mkFn true 8 d__law_right_told
def d_law : Ds := (dSeq (dSet 1 (dCall f__law_works 1 [] (dCons (dCall f__law_source 2 [] (dCons (dVar 0) (dCons (dC (.int 1)) dNil))) dNil)))
  (dSeq (dSet 2 (dCall f__law_ground 1 [] (dCons (dVar 1) dNil)))
  (dSeq (dFor (dRng2 (dCons (dC (.int 2)) (dCons (dOp2 (fAdd false) (dC (.int 3)) (dOpL fMin2 (dCons (dC (.int 9)) (dCons (dOpL fMax2 (dCons (dC (.int 0)) (dCons (dOp2 fSub (dOpL fLen (dCons (dVar 0) dNil)) (dC (.int 3))) dNil))) dNil)))) dNil))) (gNm 3) (dSeq (dSet 4 (dCall f__law_source 2 [] (dCons (dVar 0) (dCons (dVar 3) dNil))))
  (dSeq (dSet 5 (dCall f__law_drawn_rule 2 [] (dCons (dVar 4) (dCons (dVar 1) dNil))))
  (dSeq (dSet 6 (dComp false [9] (dSeqI (dOp2 fIx (dVar 5) (dC (.int 0)))) (gNm 9) dYes (dCall (f__law_term 6) 6 [.non] (dCons (dVar 4) (dCons (dVar 9) (dCons (dCall f__law_names 0 [] dNil) (dCons (dVar 1) (dCons (dC (.int 1)) dNil))))))))
  (dSeq (dSet 7 (dCall (f__law_put 12) 2 [] (dCons (dOp2 fIx (dVar 5) (dC (.int 1))) (dCons (dVar 6) dNil))))
  (dSeq (dSet 8 (dCall f__law_take 2 [] (dCons (dVar 4) (dCons (dC (.int 4)) dNil))))
  (dSeq (dIf (dTv (dOp2 fEq (dVar 8) (dC (.int 1)))) (dSeq (dSet 7 (dCall (f__law_spoilt 12) 3 [] (dCons (dVar 4) (dCons (dVar 7) (dCons (dVar 1) dNil)))))
  dNx) dNx)
  (dSeq (dIf (dTv (dOp2 fEq (dVar 8) (dC (.int 2)))) (dSeq (dSet 7 (dCall (f__law_term 6) 6 [.non] (dCons (dVar 4) (dCons (dCall f__law_kind_of 2 [] (dCons (dVar 7) (dCons (dVar 1) dNil))) (dCons (dCall f__law_names 0 [] dNil) (dCons (dVar 1) (dCons (dC (.int 3)) dNil)))))))
  dNx) dNx)
  (dSeq (dIf (dNot (dTv (dCall f__law_right_told 3 [] (dCons (dVar 2) (dCons (dVar 5) (dCons (dVar 7) dNil)))))) (dSeq (dRet (dC (.bl false)))
  dNx) dNx)
  dNx)))))))))
  (dSeq (dRet (dC (.bl true)))
  dNx))))
def f_law : Fn := mkFn true 10 d_law
end K72
end
section
set_option Elab.async false
set_option linter.all false
set_option maxRecDepth 100000
set_option maxHeartbeats 0
namespace K72
open PySem PySem.Spec L2 Mn PyProof.Rows
abbrev prg : Program := PySem.Challenge.pw_samesmith_k72_lefts_held_against_terms
def top (i : Nat) : Stmt := prg.main.body.getD i (.Pass ⟨0, 0, 0, 0⟩)
def inCls (s : Stmt) (j : Nat) : Stmt := match s with
  | .ClassDef (body := b) .. => b.getD j (.Pass ⟨0, 0, 0, 0⟩)
  | _ => .Pass ⟨0, 0, 0, 0⟩
abbrev t_is_told_name : Stmt := top 5
abbrev t_Ground_is_kind : Stmt := inCls (top 29) 11
abbrev t_Ground_is_maker : Stmt := inCls (top 29) 12
abbrev t_Ground_is_work : Stmt := inCls (top 29) 13
abbrev t_Ground_takes : Stmt := inCls (top 29) 8
abbrev t_Ground_gives : Stmt := inCls (top 29) 9
abbrev t_kind_or_none : Stmt := top 6
abbrev t_kind_of : Stmt := top 7
abbrev t_things_within : Stmt := top 8
abbrev t_all_within : Stmt := top 9
abbrev t_signs_of : Stmt := top 10
abbrev t_names_of : Stmt := top 11
abbrev t_fits_at : Stmt := top 13
abbrev t_fitting : Stmt := top 14
abbrev t_filled : Stmt := top 15
abbrev t_need : Stmt := top 27
abbrev t_is_list_of_texts : Stmt := top 28
abbrev t_Ground_is_new : Stmt := inCls (top 29) 1
abbrev t_Ground_is_open : Stmt := inCls (top 29) 14
abbrev t_Ground_check_right : Stmt := inCls (top 29) 4
abbrev t_Ground_check_falling : Stmt := inCls (top 29) 5
abbrev t_Ground_add_kind : Stmt := inCls (top 29) 2
abbrev t_Ground_add_work : Stmt := inCls (top 29) 3
abbrev t_Ground___init__ : Stmt := inCls (top 29) 0
abbrev t__law_cell_at : Stmt := top 31
abbrev t__law_mix : Stmt := top 32
abbrev t__law_source : Stmt := top 33
abbrev t__law_take : Stmt := top 34
abbrev t__law_kinds : Stmt := top 35
abbrev t__law_makers : Stmt := top 36
abbrev t__law_makes : Stmt := top 37
abbrev t__law_atoms : Stmt := top 38
abbrev t__law_own : Stmt := top 39
abbrev t__law_term : Stmt := top 40
abbrev t__law_work : Stmt := top 41
abbrev t__law_works : Stmt := top 42
abbrev t__law_ground : Stmt := top 43
abbrev t__law_names : Stmt := top 44
abbrev t__law_slots : Stmt := top 45
abbrev t__law_bound : Stmt := top 47
abbrev t__law_put : Stmt := top 48
abbrev t__law_all_parts : Stmt := top 49
abbrev t__law_left : Stmt := top 50
abbrev t__law_rule : Stmt := top 51
abbrev t__law_rules_of : Stmt := top 52
abbrev t__law_fits : Stmt := top 53
abbrev t__law_gives : Stmt := top 55
abbrev t__law_kind_of : Stmt := top 56
abbrev t__law_drawn_rule : Stmt := top 54
abbrev t__law_spoilt : Stmt := top 57
abbrev t__law_right_told : Stmt := top 58
abbrev t_law : Stmt := top 59
structure Fx (T : Tt) : Prop where
  g_all : T.mg "all" = none
  g_any : T.mg "any" = none
  g_bool : T.mg "bool" = none
  g_dict : T.mg "dict" = none
  g_enumerate : T.mg "enumerate" = none
  g_int : T.mg "int" = none
  g_isinstance : T.mg "isinstance" = none
  g_len : T.mg "len" = none
  g_list : T.mg "list" = none
  g_max : T.mg "max" = none
  g_min : T.mg "min" = none
  g_range : T.mg "range" = none
  g_set : T.mg "set" = none
  g_sorted : T.mg "sorted" = none
  g_str : T.mg "str" = none
  g_tuple : T.mg "tuple" = none
  g_zip : T.mg "zip" = none
  c_INNER : ConOk T "INNER" c_INNER
  c_MOST_IN_RIGHT : ConOk T "MOST_IN_RIGHT" c_MOST_IN_RIGHT
  c_MOST_KINDS : ConOk T "MOST_KINDS" c_MOST_KINDS
  c_MOST_LETTERS : ConOk T "MOST_LETTERS" c_MOST_LETTERS
  c_MOST_MAKERS : ConOk T "MOST_MAKERS" c_MOST_MAKERS
  c_MOST_TAKEN : ConOk T "MOST_TAKEN" c_MOST_TAKEN
  c_MOST_WORKS : ConOk T "MOST_WORKS" c_MOST_WORKS
  c_OUTER : ConOk T "OUTER" c_OUTER
  c_SMALL : ConOk T "SMALL" c_SMALL
  c_WORDS : ConOk T "WORDS" c_WORDS
  a_falls_row : FldOk T "falls_row" okG
  a_gives_row : FldOk T "gives_row" okG
  a_maker_names : FldOk T "maker_names" okG
  a_makers_row : FldOk T "makers_row" okG
  a_rights_row : FldOk T "rights_row" okG
  a_takes_row : FldOk T "takes_row" okG
  cA : T.cA = He.ga T.K
  m_Ground : T.mg "Ground" = some (.ref (T.cA "Ground"))
  mk_Ground : L2.Mk T.K (T.cA "Ground") (He.fAd T.K ("Ground", some "__init__"))
  k_Ground : L2.Cls T.K (T.cA "Ground")
  f_is_told_name : ∃ fd, L2.FunD T.K "is_told_name" "is_told_name" (defArgs t_is_told_name) (defBody t_is_told_name) (defScope t_is_told_name) [] [] (He.fAd T.K ("is_told_name", none)) fd
  m_is_told_name : T.mg "is_told_name" = some (.ref (He.fAd T.K ("is_told_name", none)))
  f_Ground_is_kind : ∃ fd, L2.FunD T.K "is_kind" "Ground.is_kind" (defArgs t_Ground_is_kind) (defBody t_Ground_is_kind) (defScope t_Ground_is_kind) [] [] (He.fAd T.K ("Ground", some "is_kind")) fd
  t_Ground_is_kind : L2.Meth T.K (T.cA "Ground") "is_kind" (He.fAd T.K ("Ground", some "is_kind"))
  f_Ground_is_maker : ∃ fd, L2.FunD T.K "is_maker" "Ground.is_maker" (defArgs t_Ground_is_maker) (defBody t_Ground_is_maker) (defScope t_Ground_is_maker) [] [] (He.fAd T.K ("Ground", some "is_maker")) fd
  t_Ground_is_maker : L2.Meth T.K (T.cA "Ground") "is_maker" (He.fAd T.K ("Ground", some "is_maker"))
  f_Ground_is_work : ∃ fd, L2.FunD T.K "is_work" "Ground.is_work" (defArgs t_Ground_is_work) (defBody t_Ground_is_work) (defScope t_Ground_is_work) [] [] (He.fAd T.K ("Ground", some "is_work")) fd
  t_Ground_is_work : L2.Meth T.K (T.cA "Ground") "is_work" (He.fAd T.K ("Ground", some "is_work"))
  f_Ground_takes : ∃ fd, L2.FunD T.K "takes" "Ground.takes" (defArgs t_Ground_takes) (defBody t_Ground_takes) (defScope t_Ground_takes) [] [] (He.fAd T.K ("Ground", some "takes")) fd
  t_Ground_takes : L2.Meth T.K (T.cA "Ground") "takes" (He.fAd T.K ("Ground", some "takes"))
  f_Ground_gives : ∃ fd, L2.FunD T.K "gives" "Ground.gives" (defArgs t_Ground_gives) (defBody t_Ground_gives) (defScope t_Ground_gives) [] [] (He.fAd T.K ("Ground", some "gives")) fd
  t_Ground_gives : L2.Meth T.K (T.cA "Ground") "gives" (He.fAd T.K ("Ground", some "gives"))
  f_kind_or_none : ∃ fd, L2.FunD T.K "kind_or_none" "kind_or_none" (defArgs t_kind_or_none) (defBody t_kind_or_none) (defScope t_kind_or_none) [] [] (He.fAd T.K ("kind_or_none", none)) fd
  m_kind_or_none : T.mg "kind_or_none" = some (.ref (He.fAd T.K ("kind_or_none", none)))
  f_kind_of : ∃ fd, L2.FunD T.K "kind_of" "kind_of" (defArgs t_kind_of) (defBody t_kind_of) (defScope t_kind_of) [] [] (He.fAd T.K ("kind_of", none)) fd
  m_kind_of : T.mg "kind_of" = some (.ref (He.fAd T.K ("kind_of", none)))
  f_things_within : ∃ fd, L2.FunD T.K "things_within" "things_within" (defArgs t_things_within) (defBody t_things_within) (defScope t_things_within) [] [] (He.fAd T.K ("things_within", none)) fd
  m_things_within : T.mg "things_within" = some (.ref (He.fAd T.K ("things_within", none)))
  f_all_within : ∃ fd, L2.FunD T.K "all_within" "all_within" (defArgs t_all_within) (defBody t_all_within) (defScope t_all_within) [] [] (He.fAd T.K ("all_within", none)) fd
  m_all_within : T.mg "all_within" = some (.ref (He.fAd T.K ("all_within", none)))
  f_signs_of : ∃ fd, L2.FunD T.K "signs_of" "signs_of" (defArgs t_signs_of) (defBody t_signs_of) (defScope t_signs_of) [] [] (He.fAd T.K ("signs_of", none)) fd
  m_signs_of : T.mg "signs_of" = some (.ref (He.fAd T.K ("signs_of", none)))
  f_names_of : ∃ fd, L2.FunD T.K "names_of" "names_of" (defArgs t_names_of) (defBody t_names_of) (defScope t_names_of) [] [] (He.fAd T.K ("names_of", none)) fd
  m_names_of : T.mg "names_of" = some (.ref (He.fAd T.K ("names_of", none)))
  f_fits_at : ∃ fd, L2.FunD T.K "fits_at" "fits_at" (defArgs t_fits_at) (defBody t_fits_at) (defScope t_fits_at) [] [] (He.fAd T.K ("fits_at", none)) fd
  m_fits_at : T.mg "fits_at" = some (.ref (He.fAd T.K ("fits_at", none)))
  f_fitting : ∃ fd, L2.FunD T.K "fitting" "fitting" (defArgs t_fitting) (defBody t_fitting) (defScope t_fitting) [] [] (He.fAd T.K ("fitting", none)) fd
  m_fitting : T.mg "fitting" = some (.ref (He.fAd T.K ("fitting", none)))
  f_filled : ∃ fd, L2.FunD T.K "filled" "filled" (defArgs t_filled) (defBody t_filled) (defScope t_filled) [] [] (He.fAd T.K ("filled", none)) fd
  m_filled : T.mg "filled" = some (.ref (He.fAd T.K ("filled", none)))
  f_need : ∃ fd, L2.FunD T.K "need" "need" (defArgs t_need) (defBody t_need) (defScope t_need) [] [] (He.fAd T.K ("need", none)) fd
  m_need : T.mg "need" = some (.ref (He.fAd T.K ("need", none)))
  f_is_list_of_texts : ∃ fd, L2.FunD T.K "is_list_of_texts" "is_list_of_texts" (defArgs t_is_list_of_texts) (defBody t_is_list_of_texts) (defScope t_is_list_of_texts) [] [] (He.fAd T.K ("is_list_of_texts", none)) fd
  m_is_list_of_texts : T.mg "is_list_of_texts" = some (.ref (He.fAd T.K ("is_list_of_texts", none)))
  f_Ground_is_new : ∃ fd, L2.FunD T.K "is_new" "Ground.is_new" (defArgs t_Ground_is_new) (defBody t_Ground_is_new) (defScope t_Ground_is_new) [] [] (He.fAd T.K ("Ground", some "is_new")) fd
  t_Ground_is_new : L2.Meth T.K (T.cA "Ground") "is_new" (He.fAd T.K ("Ground", some "is_new"))
  f_Ground_is_open : ∃ fd, L2.FunD T.K "is_open" "Ground.is_open" (defArgs t_Ground_is_open) (defBody t_Ground_is_open) (defScope t_Ground_is_open) [] [] (He.fAd T.K ("Ground", some "is_open")) fd
  t_Ground_is_open : L2.Meth T.K (T.cA "Ground") "is_open" (He.fAd T.K ("Ground", some "is_open"))
  f_Ground_check_right : ∃ fd, L2.FunD T.K "check_right" "Ground.check_right" (defArgs t_Ground_check_right) (defBody t_Ground_check_right) (defScope t_Ground_check_right) [] [] (He.fAd T.K ("Ground", some "check_right")) fd
  t_Ground_check_right : L2.Meth T.K (T.cA "Ground") "check_right" (He.fAd T.K ("Ground", some "check_right"))
  f_Ground_check_falling : ∃ fd, L2.FunD T.K "check_falling" "Ground.check_falling" (defArgs t_Ground_check_falling) (defBody t_Ground_check_falling) (defScope t_Ground_check_falling) [] [] (He.fAd T.K ("Ground", some "check_falling")) fd
  t_Ground_check_falling : L2.Meth T.K (T.cA "Ground") "check_falling" (He.fAd T.K ("Ground", some "check_falling"))
  f_Ground_add_kind : ∃ fd, L2.FunD T.K "add_kind" "Ground.add_kind" (defArgs t_Ground_add_kind) (defBody t_Ground_add_kind) (defScope t_Ground_add_kind) [] [] (He.fAd T.K ("Ground", some "add_kind")) fd
  t_Ground_add_kind : L2.Meth T.K (T.cA "Ground") "add_kind" (He.fAd T.K ("Ground", some "add_kind"))
  f_Ground_add_work : ∃ fd, L2.FunD T.K "add_work" "Ground.add_work" (defArgs t_Ground_add_work) (defBody t_Ground_add_work) (defScope t_Ground_add_work) [] [] (He.fAd T.K ("Ground", some "add_work")) fd
  t_Ground_add_work : L2.Meth T.K (T.cA "Ground") "add_work" (He.fAd T.K ("Ground", some "add_work"))
  f_Ground___init__ : ∃ fd, L2.FunD T.K "__init__" "Ground.__init__" (defArgs t_Ground___init__) (defBody t_Ground___init__) (defScope t_Ground___init__) [] [] (He.fAd T.K ("Ground", some "__init__")) fd
  f__law_cell_at : ∃ fd, L2.FunD T.K "_law_cell_at" "_law_cell_at" (defArgs t__law_cell_at) (defBody t__law_cell_at) (defScope t__law_cell_at) [] [] (He.fAd T.K ("_law_cell_at", none)) fd
  m__law_cell_at : T.mg "_law_cell_at" = some (.ref (He.fAd T.K ("_law_cell_at", none)))
  f__law_mix : ∃ fd, L2.FunD T.K "_law_mix" "_law_mix" (defArgs t__law_mix) (defBody t__law_mix) (defScope t__law_mix) [] [] (He.fAd T.K ("_law_mix", none)) fd
  m__law_mix : T.mg "_law_mix" = some (.ref (He.fAd T.K ("_law_mix", none)))
  f__law_source : ∃ fd, L2.FunD T.K "_law_source" "_law_source" (defArgs t__law_source) (defBody t__law_source) (defScope t__law_source) [] [] (He.fAd T.K ("_law_source", none)) fd
  m__law_source : T.mg "_law_source" = some (.ref (He.fAd T.K ("_law_source", none)))
  f__law_take : ∃ fd, L2.FunD T.K "_law_take" "_law_take" (defArgs t__law_take) (defBody t__law_take) (defScope t__law_take) [] [] (He.fAd T.K ("_law_take", none)) fd
  m__law_take : T.mg "_law_take" = some (.ref (He.fAd T.K ("_law_take", none)))
  f__law_kinds : ∃ fd, L2.FunD T.K "_law_kinds" "_law_kinds" (defArgs t__law_kinds) (defBody t__law_kinds) (defScope t__law_kinds) [] [] (He.fAd T.K ("_law_kinds", none)) fd
  m__law_kinds : T.mg "_law_kinds" = some (.ref (He.fAd T.K ("_law_kinds", none)))
  f__law_makers : ∃ fd, L2.FunD T.K "_law_makers" "_law_makers" (defArgs t__law_makers) (defBody t__law_makers) (defScope t__law_makers) [] [] (He.fAd T.K ("_law_makers", none)) fd
  m__law_makers : T.mg "_law_makers" = some (.ref (He.fAd T.K ("_law_makers", none)))
  f__law_makes : ∃ fd, L2.FunD T.K "_law_makes" "_law_makes" (defArgs t__law_makes) (defBody t__law_makes) (defScope t__law_makes) [] [] (He.fAd T.K ("_law_makes", none)) fd
  m__law_makes : T.mg "_law_makes" = some (.ref (He.fAd T.K ("_law_makes", none)))
  f__law_atoms : ∃ fd, L2.FunD T.K "_law_atoms" "_law_atoms" (defArgs t__law_atoms) (defBody t__law_atoms) (defScope t__law_atoms) [] [] (He.fAd T.K ("_law_atoms", none)) fd
  m__law_atoms : T.mg "_law_atoms" = some (.ref (He.fAd T.K ("_law_atoms", none)))
  f__law_own : ∃ fd, L2.FunD T.K "_law_own" "_law_own" (defArgs t__law_own) (defBody t__law_own) (defScope t__law_own) [] [] (He.fAd T.K ("_law_own", none)) fd
  m__law_own : T.mg "_law_own" = some (.ref (He.fAd T.K ("_law_own", none)))
  f__law_term : ∃ fd, L2.FunD T.K "_law_term" "_law_term" (defArgs t__law_term) (defBody t__law_term) (defScope t__law_term) [.non] [] (He.fAd T.K ("_law_term", none)) fd
  m__law_term : T.mg "_law_term" = some (.ref (He.fAd T.K ("_law_term", none)))
  f__law_work : ∃ fd, L2.FunD T.K "_law_work" "_law_work" (defArgs t__law_work) (defBody t__law_work) (defScope t__law_work) [] [] (He.fAd T.K ("_law_work", none)) fd
  m__law_work : T.mg "_law_work" = some (.ref (He.fAd T.K ("_law_work", none)))
  f__law_works : ∃ fd, L2.FunD T.K "_law_works" "_law_works" (defArgs t__law_works) (defBody t__law_works) (defScope t__law_works) [] [] (He.fAd T.K ("_law_works", none)) fd
  m__law_works : T.mg "_law_works" = some (.ref (He.fAd T.K ("_law_works", none)))
  f__law_ground : ∃ fd, L2.FunD T.K "_law_ground" "_law_ground" (defArgs t__law_ground) (defBody t__law_ground) (defScope t__law_ground) [] [] (He.fAd T.K ("_law_ground", none)) fd
  m__law_ground : T.mg "_law_ground" = some (.ref (He.fAd T.K ("_law_ground", none)))
  f__law_names : ∃ fd, L2.FunD T.K "_law_names" "_law_names" (defArgs t__law_names) (defBody t__law_names) (defScope t__law_names) [] [] (He.fAd T.K ("_law_names", none)) fd
  m__law_names : T.mg "_law_names" = some (.ref (He.fAd T.K ("_law_names", none)))
  f__law_slots : ∃ fd, L2.FunD T.K "_law_slots" "_law_slots" (defArgs t__law_slots) (defBody t__law_slots) (defScope t__law_slots) [] [] (He.fAd T.K ("_law_slots", none)) fd
  m__law_slots : T.mg "_law_slots" = some (.ref (He.fAd T.K ("_law_slots", none)))
  f__law_bound : ∃ fd, L2.FunD T.K "_law_bound" "_law_bound" (defArgs t__law_bound) (defBody t__law_bound) (defScope t__law_bound) [] [] (He.fAd T.K ("_law_bound", none)) fd
  m__law_bound : T.mg "_law_bound" = some (.ref (He.fAd T.K ("_law_bound", none)))
  f__law_put : ∃ fd, L2.FunD T.K "_law_put" "_law_put" (defArgs t__law_put) (defBody t__law_put) (defScope t__law_put) [] [] (He.fAd T.K ("_law_put", none)) fd
  m__law_put : T.mg "_law_put" = some (.ref (He.fAd T.K ("_law_put", none)))
  f__law_all_parts : ∃ fd, L2.FunD T.K "_law_all_parts" "_law_all_parts" (defArgs t__law_all_parts) (defBody t__law_all_parts) (defScope t__law_all_parts) [] [] (He.fAd T.K ("_law_all_parts", none)) fd
  m__law_all_parts : T.mg "_law_all_parts" = some (.ref (He.fAd T.K ("_law_all_parts", none)))
  f__law_left : ∃ fd, L2.FunD T.K "_law_left" "_law_left" (defArgs t__law_left) (defBody t__law_left) (defScope t__law_left) [] [] (He.fAd T.K ("_law_left", none)) fd
  m__law_left : T.mg "_law_left" = some (.ref (He.fAd T.K ("_law_left", none)))
  f__law_rule : ∃ fd, L2.FunD T.K "_law_rule" "_law_rule" (defArgs t__law_rule) (defBody t__law_rule) (defScope t__law_rule) [] [] (He.fAd T.K ("_law_rule", none)) fd
  m__law_rule : T.mg "_law_rule" = some (.ref (He.fAd T.K ("_law_rule", none)))
  f__law_rules_of : ∃ fd, L2.FunD T.K "_law_rules_of" "_law_rules_of" (defArgs t__law_rules_of) (defBody t__law_rules_of) (defScope t__law_rules_of) [] [] (He.fAd T.K ("_law_rules_of", none)) fd
  m__law_rules_of : T.mg "_law_rules_of" = some (.ref (He.fAd T.K ("_law_rules_of", none)))
  f__law_fits : ∃ fd, L2.FunD T.K "_law_fits" "_law_fits" (defArgs t__law_fits) (defBody t__law_fits) (defScope t__law_fits) [] [] (He.fAd T.K ("_law_fits", none)) fd
  m__law_fits : T.mg "_law_fits" = some (.ref (He.fAd T.K ("_law_fits", none)))
  f__law_gives : ∃ fd, L2.FunD T.K "_law_gives" "_law_gives" (defArgs t__law_gives) (defBody t__law_gives) (defScope t__law_gives) [] [] (He.fAd T.K ("_law_gives", none)) fd
  m__law_gives : T.mg "_law_gives" = some (.ref (He.fAd T.K ("_law_gives", none)))
  f__law_kind_of : ∃ fd, L2.FunD T.K "_law_kind_of" "_law_kind_of" (defArgs t__law_kind_of) (defBody t__law_kind_of) (defScope t__law_kind_of) [] [] (He.fAd T.K ("_law_kind_of", none)) fd
  m__law_kind_of : T.mg "_law_kind_of" = some (.ref (He.fAd T.K ("_law_kind_of", none)))
  f__law_drawn_rule : ∃ fd, L2.FunD T.K "_law_drawn_rule" "_law_drawn_rule" (defArgs t__law_drawn_rule) (defBody t__law_drawn_rule) (defScope t__law_drawn_rule) [] [] (He.fAd T.K ("_law_drawn_rule", none)) fd
  m__law_drawn_rule : T.mg "_law_drawn_rule" = some (.ref (He.fAd T.K ("_law_drawn_rule", none)))
  f__law_spoilt : ∃ fd, L2.FunD T.K "_law_spoilt" "_law_spoilt" (defArgs t__law_spoilt) (defBody t__law_spoilt) (defScope t__law_spoilt) [] [] (He.fAd T.K ("_law_spoilt", none)) fd
  m__law_spoilt : T.mg "_law_spoilt" = some (.ref (He.fAd T.K ("_law_spoilt", none)))
  f__law_right_told : ∃ fd, L2.FunD T.K "_law_right_told" "_law_right_told" (defArgs t__law_right_told) (defBody t__law_right_told) (defScope t__law_right_told) [] [] (He.fAd T.K ("_law_right_told", none)) fd
  m__law_right_told : T.mg "_law_right_told" = some (.ref (He.fAd T.K ("_law_right_told", none)))
  f_law : ∃ fd, L2.FunD T.K "law" "law" (defArgs t_law) (defBody t_law) (defScope t_law) [] [] (He.fAd T.K ("law", none)) fd
  m_law : T.mg "law" = some (.ref (He.fAd T.K ("law", none)))
section
variable {T : Tt}
def n_is_told_name : List Str := ["thing", "sign"]
theorem sc_is_told_name : L2.FnScope n_is_told_name ["thing"] (defScope t_is_told_name) := ⟨rfl, rfl, rfl, by decide +kernel, rfl, by decide +kernel, by decide +kernel⟩
theorem s_is_told_name (Y : Fx T) : SSs T 0 n_is_told_name (defScope t_is_told_name) (defBody t_is_told_name) d_is_told_name :=
  (sss_cons (ss_if (st_w (sw_or (st_not (st_val (fun _ _ => rfl) (se_isi rfl rfl Y.g_isinstance (sa_cons rfl (se_var (i := 0) rfl rfl rfl rfl) (sa_cons rfl (se_cls (n := "str") rfl Y.g_str (by decide +kernel) (by decide) rfl) sa_nil)) rfl rfl))) (sw_or (st_lt (se_len rfl rfl Y.g_len (sa_cons rfl (se_var (i := 0) rfl rfl rfl rfl) sa_nil) rfl) se_int) (sw_or (st_gt (se_len rfl rfl Y.g_len (sa_cons rfl (se_var (i := 0) rfl rfl rfl rfl) sa_nil) rfl) (se_con rfl Y.c_MOST_LETTERS rfl)) (sw_or1 (st_in (se_var (i := 0) rfl rfl rfl rfl) (se_con rfl Y.c_WORDS rfl) rfl)))))) (sss_cons (ss_ret se_bl)
  sss_nil) sss_nil)
  (sss_cons (ss_ret (se_all rfl rfl Y.g_all (sa_cons rfl (se_lc (own := [("sign", 1)])  (si_seq (se_var (i := 0) rfl rfl rfl rfl)) (by rfl) (sg_name (i := 1) rfl rfl) sts_nil (se_in (se_var (i := 1) rfl rfl rfl rfl) (se_con rfl Y.c_SMALL rfl) rfl) rfl (by decide)) sa_nil) rfl))
  sss_nil))
theorem ok_is_told_name (Y : Fx T) : FnF T 1 (He.fAd T.K ("is_told_name", none)) 1 f_is_told_name [] := let ⟨_, F⟩ := Y.f_is_told_name; FnF.of F sc_is_told_name (F.bindsN (ps := ["thing"]) (fun _ _ _ _ _ _ us hl => match us, hl with | [_], _ => rfl)) (s_is_told_name Y) (Nat.le_refl _)
def n_Ground_is_kind : List Str := ["self", "thing"]
theorem sc_Ground_is_kind : L2.FnScope n_Ground_is_kind ["self", "thing"] (defScope t_Ground_is_kind) := ⟨rfl, rfl, rfl, by decide +kernel, rfl, by decide +kernel, by decide +kernel⟩
theorem s_Ground_is_kind (Y : Fx T) : SSs T 0 n_Ground_is_kind (defScope t_Ground_is_kind) (defBody t_Ground_is_kind) d_Ground_is_kind :=
  (sss_cons (ss_ret (se_and (se_isi rfl rfl Y.g_isinstance (sa_cons rfl (se_var (i := 1) rfl rfl rfl rfl) (sa_cons rfl (se_cls (n := "str") rfl Y.g_str (by decide +kernel) (by decide) rfl) sa_nil)) rfl rfl) (se_one (se_in (se_var (i := 1) rfl rfl rfl rfl) (se_att Y.a_makers_row (se_var (i := 0) rfl rfl rfl rfl) rfl) rfl))))
  sss_nil)
theorem ok_Ground_is_kind (Y : Fx T) : FnF T 1 (He.fAd T.K ("Ground", some "is_kind")) 2 f_Ground_is_kind [] := let ⟨_, F⟩ := Y.f_Ground_is_kind; FnF.of F sc_Ground_is_kind (F.bindsN (ps := ["self", "thing"]) (fun _ _ _ _ _ _ us hl => match us, hl with | [_, _], _ => rfl)) (s_Ground_is_kind Y) (Nat.le_refl _)
theorem tm_is_kind (Y : Fx T) : MtF T 1 "is_kind" mt_is_kind := MtF.of1 Y.k_Ground Y.t_Ground_is_kind (ok_Ground_is_kind Y)
def n_Ground_is_maker : List Str := ["self", "thing"]
theorem sc_Ground_is_maker : L2.FnScope n_Ground_is_maker ["self", "thing"] (defScope t_Ground_is_maker) := ⟨rfl, rfl, rfl, by decide +kernel, rfl, by decide +kernel, by decide +kernel⟩
theorem s_Ground_is_maker (Y : Fx T) : SSs T 0 n_Ground_is_maker (defScope t_Ground_is_maker) (defBody t_Ground_is_maker) d_Ground_is_maker :=
  (sss_cons (ss_ret (se_and (se_isi rfl rfl Y.g_isinstance (sa_cons rfl (se_var (i := 1) rfl rfl rfl rfl) (sa_cons rfl (se_cls (n := "str") rfl Y.g_str (by decide +kernel) (by decide) rfl) sa_nil)) rfl rfl) (se_one (se_in (se_var (i := 1) rfl rfl rfl rfl) (se_att Y.a_maker_names (se_var (i := 0) rfl rfl rfl rfl) rfl) rfl))))
  sss_nil)
theorem ok_Ground_is_maker (Y : Fx T) : FnF T 1 (He.fAd T.K ("Ground", some "is_maker")) 2 f_Ground_is_maker [] := let ⟨_, F⟩ := Y.f_Ground_is_maker; FnF.of F sc_Ground_is_maker (F.bindsN (ps := ["self", "thing"]) (fun _ _ _ _ _ _ us hl => match us, hl with | [_, _], _ => rfl)) (s_Ground_is_maker Y) (Nat.le_refl _)
theorem tm_is_maker (Y : Fx T) : MtF T 1 "is_maker" mt_is_maker := MtF.of1 Y.k_Ground Y.t_Ground_is_maker (ok_Ground_is_maker Y)
def n_Ground_is_work : List Str := ["self", "thing"]
theorem sc_Ground_is_work : L2.FnScope n_Ground_is_work ["self", "thing"] (defScope t_Ground_is_work) := ⟨rfl, rfl, rfl, by decide +kernel, rfl, by decide +kernel, by decide +kernel⟩
theorem s_Ground_is_work (Y : Fx T) : SSs T 0 n_Ground_is_work (defScope t_Ground_is_work) (defBody t_Ground_is_work) d_Ground_is_work :=
  (sss_cons (ss_ret (se_and (se_isi rfl rfl Y.g_isinstance (sa_cons rfl (se_var (i := 1) rfl rfl rfl rfl) (sa_cons rfl (se_cls (n := "str") rfl Y.g_str (by decide +kernel) (by decide) rfl) sa_nil)) rfl rfl) (se_one (se_in (se_var (i := 1) rfl rfl rfl rfl) (se_att Y.a_rights_row (se_var (i := 0) rfl rfl rfl rfl) rfl) rfl))))
  sss_nil)
theorem ok_Ground_is_work (Y : Fx T) : FnF T 1 (He.fAd T.K ("Ground", some "is_work")) 2 f_Ground_is_work [] := let ⟨_, F⟩ := Y.f_Ground_is_work; FnF.of F sc_Ground_is_work (F.bindsN (ps := ["self", "thing"]) (fun _ _ _ _ _ _ us hl => match us, hl with | [_, _], _ => rfl)) (s_Ground_is_work Y) (Nat.le_refl _)
theorem tm_is_work (Y : Fx T) : MtF T 1 "is_work" mt_is_work := MtF.of1 Y.k_Ground Y.t_Ground_is_work (ok_Ground_is_work Y)
def n_Ground_takes : List Str := ["self", "f"]
theorem sc_Ground_takes : L2.FnScope n_Ground_takes ["self", "f"] (defScope t_Ground_takes) := ⟨rfl, rfl, rfl, by decide +kernel, rfl, by decide +kernel, by decide +kernel⟩
theorem s_Ground_takes (Y : Fx T) : SSs T 0 n_Ground_takes (defScope t_Ground_takes) (defBody t_Ground_takes) d_Ground_takes :=
  (sss_cons (ss_ret (se_list rfl rfl Y.g_list (sa_cons rfl (se_ixP (se_att Y.a_takes_row (se_var (i := 0) rfl rfl rfl rfl) rfl) (se_var (i := 1) rfl rfl rfl rfl) (fun _ _ => rfl)) sa_nil) rfl))
  sss_nil)
theorem ok_Ground_takes (Y : Fx T) : FnF T 1 (He.fAd T.K ("Ground", some "takes")) 2 f_Ground_takes [] := let ⟨_, F⟩ := Y.f_Ground_takes; FnF.of F sc_Ground_takes (F.bindsN (ps := ["self", "f"]) (fun _ _ _ _ _ _ us hl => match us, hl with | [_, _], _ => rfl)) (s_Ground_takes Y) (Nat.le_refl _)
theorem tm_takes (Y : Fx T) : MtF T 1 "takes" mt_takes := MtF.of1 Y.k_Ground Y.t_Ground_takes (ok_Ground_takes Y)
def n_Ground_gives : List Str := ["self", "f"]
theorem sc_Ground_gives : L2.FnScope n_Ground_gives ["self", "f"] (defScope t_Ground_gives) := ⟨rfl, rfl, rfl, by decide +kernel, rfl, by decide +kernel, by decide +kernel⟩
theorem s_Ground_gives (Y : Fx T) : SSs T 0 n_Ground_gives (defScope t_Ground_gives) (defBody t_Ground_gives) d_Ground_gives :=
  (sss_cons (ss_ret (se_ixP (se_att Y.a_gives_row (se_var (i := 0) rfl rfl rfl rfl) rfl) (se_var (i := 1) rfl rfl rfl rfl) (fun _ _ => rfl)))
  sss_nil)
theorem ok_Ground_gives (Y : Fx T) : FnF T 1 (He.fAd T.K ("Ground", some "gives")) 2 f_Ground_gives [] := let ⟨_, F⟩ := Y.f_Ground_gives; FnF.of F sc_Ground_gives (F.bindsN (ps := ["self", "f"]) (fun _ _ _ _ _ _ us hl => match us, hl with | [_, _], _ => rfl)) (s_Ground_gives Y) (Nat.le_refl _)
theorem tm_gives (Y : Fx T) : MtF T 1 "gives" mt_gives := MtF.of1 Y.k_Ground Y.t_Ground_gives (ok_Ground_gives Y)
def n_kind_or_none : List Str := ["ground", "thing", "wanted", "part", "kind"]
theorem sc_kind_or_none : L2.FnScope n_kind_or_none ["ground", "thing"] (defScope t_kind_or_none) := ⟨rfl, rfl, rfl, by decide +kernel, rfl, by decide +kernel, by decide +kernel⟩
theorem s_kind_or_none (Y : Fx T) {k : Nat} (hk : 1 ≤ k) {rec : Fn} (hrec : FnF T k (He.fAd T.K ("kind_or_none", none)) 2 rec []) : SSs T k n_kind_or_none (defScope t_kind_or_none) (defBody t_kind_or_none) (d_kind_or_none rec) :=
  (sss_cons (ss_if (st_w (sw_or (st_not (st_val (fun _ _ => rfl) (se_isi rfl rfl Y.g_isinstance (sa_cons rfl (se_var (i := 1) rfl rfl rfl rfl) (sa_cons rfl (se_cls (n := "tuple") rfl Y.g_tuple (by decide +kernel) (by decide) rfl) sa_nil)) rfl rfl))) (sw_or1 (st_ne (se_len rfl rfl Y.g_len (sa_cons rfl (se_var (i := 1) rfl rfl rfl rfl) sa_nil) rfl) se_int)))) (sss_cons (ss_ret se_non)
  sss_nil) sss_nil)
  (sss_cons (ss_if (st_eq (se_ixP (se_var (i := 1) rfl rfl rfl rfl) se_int (fun _ _ => rfl)) se_str) (sss_cons (ss_if (st_w (sw_and (st_val (fun _ _ => rfl) (se_call ((ok_is_told_name Y).mono (Nat.le_trans (by decide) hk)) rfl Y.m_is_told_name rfl (sa_cons rfl (se_ixP (se_var (i := 1) rfl rfl rfl rfl) se_int (fun _ _ => rfl)) sa_nil) rfl rfl)) (sw_and1 (st_val (fun _ _ => rfl) (se_meth ((tm_is_kind Y).mono (Nat.le_trans (by decide) hk)) (se_var (i := 0) rfl rfl rfl rfl) (sa_cons rfl (se_ixP (se_var (i := 1) rfl rfl rfl rfl) se_int (fun _ _ => rfl)) sa_nil) rfl rfl rfl rfl rfl))))) (sss_cons (ss_ret (se_ixP (se_var (i := 1) rfl rfl rfl rfl) se_int (fun _ _ => rfl)))
  sss_nil) sss_nil)
  (sss_cons (ss_ret se_non)
  sss_nil)) sss_nil)
  (sss_cons (ss_if (st_w (sw_or (st_ne (se_ixP (se_var (i := 1) rfl rfl rfl rfl) se_int (fun _ _ => rfl)) se_str) (sw_or1 (st_not (st_val (fun _ _ => rfl) (se_isi rfl rfl Y.g_isinstance (sa_cons rfl (se_ixP (se_var (i := 1) rfl rfl rfl rfl) se_int (fun _ _ => rfl)) (sa_cons rfl (se_cls (n := "tuple") rfl Y.g_tuple (by decide +kernel) (by decide) rfl) sa_nil)) rfl rfl)))))) (sss_cons (ss_ret se_non)
  sss_nil) sss_nil)
  (sss_cons (ss_if (st_w (sw_and (st_not (st_val (fun _ _ => rfl) (se_meth ((tm_is_maker Y).mono (Nat.le_trans (by decide) hk)) (se_var (i := 0) rfl rfl rfl rfl) (sa_cons rfl (se_ixP (se_var (i := 1) rfl rfl rfl rfl) se_int (fun _ _ => rfl)) sa_nil) rfl rfl rfl rfl rfl))) (sw_and1 (st_not (st_val (fun _ _ => rfl) (se_meth ((tm_is_work Y).mono (Nat.le_trans (by decide) hk)) (se_var (i := 0) rfl rfl rfl rfl) (sa_cons rfl (se_ixP (se_var (i := 1) rfl rfl rfl rfl) se_int (fun _ _ => rfl)) sa_nil) rfl rfl rfl rfl rfl)))))) (sss_cons (ss_ret se_non)
  sss_nil) sss_nil)
  (sss_cons (ss_set (i := 2) rfl rfl (se_meth ((tm_takes Y).mono (Nat.le_trans (by decide) hk)) (se_var (i := 0) rfl rfl rfl rfl) (sa_cons rfl (se_ixP (se_var (i := 1) rfl rfl rfl rfl) se_int (fun _ _ => rfl)) sa_nil) rfl rfl rfl rfl rfl) rfl)
  (sss_cons (ss_if (st_ne (se_len rfl rfl Y.g_len (sa_cons rfl (se_var (i := 2) rfl rfl rfl rfl) sa_nil) rfl) (se_len rfl rfl Y.g_len (sa_cons rfl (se_ixP (se_var (i := 1) rfl rfl rfl rfl) se_int (fun _ _ => rfl)) sa_nil) rfl)) (sss_cons (ss_ret se_non)
  sss_nil) sss_nil)
  (sss_cons (ss_for (si_zip rfl rfl Y.g_zip (sa_cons rfl (se_ixP (se_var (i := 1) rfl rfl rfl rfl) se_int (fun _ _ => rfl)) (sa_cons rfl (se_var (i := 2) rfl rfl rfl rfl) sa_nil)) rfl rfl) (sg_tup (sgs_cons (sg_name (i := 3) rfl rfl) (sgs_cons (sg_name (i := 4) rfl rfl) sgs_nil rfl) rfl) rfl rfl) (sss_cons (ss_if (st_ne (se_call hrec rfl Y.m_kind_or_none rfl (sa_cons rfl (se_var (i := 0) rfl rfl rfl rfl) (sa_cons rfl (se_var (i := 3) rfl rfl rfl rfl) sa_nil)) rfl rfl) (se_var (i := 4) rfl rfl rfl rfl)) (sss_cons (ss_ret se_non)
  sss_nil) sss_nil)
  sss_nil) rfl)
  (sss_cons (ss_ret (se_meth ((tm_gives Y).mono (Nat.le_trans (by decide) hk)) (se_var (i := 0) rfl rfl rfl rfl) (sa_cons rfl (se_ixP (se_var (i := 1) rfl rfl rfl rfl) se_int (fun _ _ => rfl)) sa_nil) rfl rfl rfl rfl rfl))
  sss_nil))))))))
theorem ok_kind_or_none (Y : Fx T) : ∀ n, FnF T (2 + n) (He.fAd T.K ("kind_or_none", none)) 2 (f_kind_or_none n) []
  | 0 => let ⟨_, F⟩ := Y.f_kind_or_none; FnF.of F sc_kind_or_none (F.bindsN (ps := ["ground", "thing"]) (fun _ _ _ _ _ _ us hl => match us, hl with | [_, _], _ => rfl)) (sss_bad (k := 1)) (Nat.le_refl _)
  | n + 1 => let ⟨_, F⟩ := Y.f_kind_or_none; FnF.of F sc_kind_or_none (F.bindsN (ps := ["ground", "thing"]) (fun _ _ _ _ _ _ us hl => match us, hl with | [_, _], _ => rfl)) (s_kind_or_none Y (k := 2 + n) (by omega) (ok_kind_or_none Y n |>.mono (by omega))) (by omega)
def n_kind_of : List Str := ["ground", "term"]
theorem sc_kind_of : L2.FnScope n_kind_of ["ground", "term"] (defScope t_kind_of) := ⟨rfl, rfl, rfl, by decide +kernel, rfl, by decide +kernel, by decide +kernel⟩
theorem s_kind_of (Y : Fx T) : SSs T 1 n_kind_of (defScope t_kind_of) (defBody t_kind_of) d_kind_of :=
  (sss_cons (ss_if (st_eq (se_ixP (se_var (i := 1) rfl rfl rfl rfl) se_int (fun _ _ => rfl)) se_str) (sss_cons (ss_ret (se_ixP (se_var (i := 1) rfl rfl rfl rfl) se_int (fun _ _ => rfl)))
  sss_nil) sss_nil)
  (sss_cons (ss_ret (se_meth ((tm_gives Y).mono (by decide)) (se_var (i := 0) rfl rfl rfl rfl) (sa_cons rfl (se_ixP (se_var (i := 1) rfl rfl rfl rfl) se_int (fun _ _ => rfl)) sa_nil) rfl rfl rfl rfl rfl))
  sss_nil))
theorem ok_kind_of (Y : Fx T) : FnF T 2 (He.fAd T.K ("kind_of", none)) 2 f_kind_of [] := let ⟨_, F⟩ := Y.f_kind_of; FnF.of F sc_kind_of (F.bindsN (ps := ["ground", "term"]) (fun _ _ _ _ _ _ us hl => match us, hl with | [_, _], _ => rfl)) (s_kind_of Y) (Nat.le_refl _)
def n_things_within : List Str := ["thing"]
theorem sc_things_within : L2.FnScope n_things_within ["thing"] (defScope t_things_within) := ⟨rfl, rfl, rfl, by decide +kernel, rfl, by decide +kernel, by decide +kernel⟩
theorem s_things_within (Y : Fx T) : SSs T 0 n_things_within (defScope t_things_within) (defBody t_things_within) d_things_within :=
  (sss_cons (ss_if (st_eq (se_ixP (se_var (i := 0) rfl rfl rfl rfl) se_int (fun _ _ => rfl)) se_str) (sss_cons (ss_ret (se_list rfl rfl Y.g_list (sa_cons rfl (se_ixP (se_var (i := 0) rfl rfl rfl rfl) se_int (fun _ _ => rfl)) sa_nil) rfl))
  sss_nil) sss_nil)
  (sss_cons (ss_if (st_in (se_ixP (se_var (i := 0) rfl rfl rfl rfl) se_int (fun _ _ => rfl)) (se_tup (sa_cons rfl se_str (sa_cons rfl se_str sa_nil))) rfl) (sss_cons (ss_ret (se_lst (sa_cons rfl (se_ixP (se_var (i := 0) rfl rfl rfl rfl) se_int (fun _ _ => rfl)) sa_nil)))
  sss_nil) sss_nil)
  (sss_cons (ss_if (st_in (se_ixP (se_var (i := 0) rfl rfl rfl rfl) se_int (fun _ _ => rfl)) (se_tup (sa_cons rfl se_str (sa_cons rfl se_str (sa_cons rfl se_str (sa_cons rfl se_str (sa_cons rfl se_str sa_nil)))))) rfl) (sss_cons (ss_ret (se_list rfl rfl Y.g_list (sa_cons rfl (se_slice (se_var (i := 0) rfl rfl rfl rfl) (so_some se_int) so_none) sa_nil) rfl))
  sss_nil) sss_nil)
  (sss_cons (ss_ret (se_lst sa_nil))
  sss_nil))))
theorem ok_things_within (Y : Fx T) : FnF T 1 (He.fAd T.K ("things_within", none)) 1 f_things_within [] := let ⟨_, F⟩ := Y.f_things_within; FnF.of F sc_things_within (F.bindsN (ps := ["thing"]) (fun _ _ _ _ _ _ us hl => match us, hl with | [_], _ => rfl)) (s_things_within Y) (Nat.le_refl _)
def n_all_within : List Str := ["thing", "found", "at"]
theorem sc_all_within : L2.FnScope n_all_within ["thing"] (defScope t_all_within) := ⟨rfl, rfl, rfl, by decide +kernel, rfl, by decide +kernel, by decide +kernel⟩
theorem s_all_within (Y : Fx T) : SSs T 1 n_all_within (defScope t_all_within) (defBody t_all_within) d_all_within :=
  (sss_cons (ss_set (i := 1) rfl rfl (se_lst (sa_cons rfl (se_var (i := 0) rfl rfl rfl rfl) sa_nil)) rfl)
  (sss_cons (ss_set (i := 2) rfl rfl se_int rfl)
  (sss_cons (ss_while (st_lt (se_var (i := 2) rfl rfl rfl rfl) (se_len rfl rfl Y.g_len (sa_cons rfl (se_var (i := 1) rfl rfl rfl rfl) sa_nil) rfl)) (sss_cons (ss_expr (se_extend (se_var (i := 1) rfl rfl rfl rfl) (sa_cons rfl (se_call ((ok_things_within Y).mono (by decide)) rfl Y.m_things_within rfl (sa_cons rfl (se_ixP (se_var (i := 1) rfl rfl rfl rfl) (se_var (i := 2) rfl rfl rfl rfl) (fun _ _ => rfl)) sa_nil) rfl rfl) sa_nil) rfl rfl rfl) rfl)
  (sss_cons (ss_aug (i := 2) rfl rfl se_int)
  sss_nil)))
  (sss_cons (ss_ret (se_var (i := 1) rfl rfl rfl rfl))
  sss_nil))))
theorem ok_all_within (Y : Fx T) : FnF T 2 (He.fAd T.K ("all_within", none)) 1 f_all_within [] := let ⟨_, F⟩ := Y.f_all_within; FnF.of F sc_all_within (F.bindsN (ps := ["thing"]) (fun _ _ _ _ _ _ us hl => match us, hl with | [_], _ => rfl)) (s_all_within Y) (Nat.le_refl _)
def n_signs_of : List Str := ["thing"]
theorem sc_signs_of : L2.FnScope n_signs_of ["thing"] (defScope t_signs_of) := ⟨rfl, rfl, rfl, by decide +kernel, rfl, by decide +kernel, by decide +kernel⟩
theorem s_signs_of (Y : Fx T) : SSs T 2 n_signs_of (defScope t_signs_of) (defBody t_signs_of) d_signs_of :=
  (sss_cons (ss_ret (se_len rfl rfl Y.g_len (sa_cons rfl (se_call ((ok_all_within Y).mono (by decide)) rfl Y.m_all_within rfl (sa_cons rfl (se_var (i := 0) rfl rfl rfl rfl) sa_nil) rfl rfl) sa_nil) rfl))
  sss_nil)
theorem ok_signs_of (Y : Fx T) : FnF T 3 (He.fAd T.K ("signs_of", none)) 1 f_signs_of [] := let ⟨_, F⟩ := Y.f_signs_of; FnF.of F sc_signs_of (F.bindsN (ps := ["thing"]) (fun _ _ _ _ _ _ us hl => match us, hl with | [_], _ => rfl)) (s_signs_of Y) (Nat.le_refl _)
def n_names_of : List Str := ["term", "one"]
theorem sc_names_of : L2.FnScope n_names_of ["term"] (defScope t_names_of) := ⟨rfl, rfl, rfl, by decide +kernel, rfl, by decide +kernel, by decide +kernel⟩
theorem s_names_of (Y : Fx T) : SSs T 2 n_names_of (defScope t_names_of) (defBody t_names_of) d_names_of :=
  (sss_cons (ss_ret (se_sortSet rfl rfl rfl Y.g_sorted rfl Y.g_set (sa_cons rfl (se_lc (own := [("one", 1)])  (si_seq (se_call ((ok_all_within Y).mono (by decide)) rfl Y.m_all_within rfl (sa_cons rfl (se_var (i := 0) rfl rfl rfl rfl) sa_nil) rfl rfl)) (by rfl) (sg_name (i := 1) rfl rfl) (sts_one (st_eq (se_ixP (se_var (i := 1) rfl rfl rfl rfl) se_int (fun _ _ => rfl)) se_str)) (se_slice (se_var (i := 1) rfl rfl rfl rfl) (so_some se_int) so_none) rfl (by decide)) sa_nil) rfl))
  sss_nil)
theorem ok_names_of (Y : Fx T) : FnF T 3 (He.fAd T.K ("names_of", none)) 1 f_names_of [] := let ⟨_, F⟩ := Y.f_names_of; FnF.of F sc_names_of (F.bindsN (ps := ["term"]) (fun _ _ _ _ _ _ us hl => match us, hl with | [_], _ => rfl)) (s_names_of Y) (Nat.le_refl _)
def n_fits_at : List Str := ["ground", "rule", "found", "pattern", "here", "k"]
theorem sc_fits_at : L2.FnScope n_fits_at ["ground", "rule", "found", "pattern", "here"] (defScope t_fits_at) := ⟨rfl, rfl, rfl, by decide +kernel, rfl, by decide +kernel, by decide +kernel⟩
theorem s_fits_at (Y : Fx T) : SSs T 2 n_fits_at (defScope t_fits_at) (defBody t_fits_at) d_fits_at :=
  (sss_cons (ss_if (st_eq (se_ixP (se_var (i := 3) rfl rfl rfl rfl) se_int (fun _ _ => rfl)) se_str) (sss_cons (ss_set (i := 5) rfl rfl (se_ixP (se_var (i := 3) rfl rfl rfl rfl) se_int (fun _ _ => rfl)) rfl)
  (sss_cons (ss_if (st_w (sw_and (st_is (se_ixP (se_var (i := 2) rfl rfl rfl rfl) (se_var (i := 5) rfl rfl rfl rfl) (fun _ _ => rfl)) se_non) (sw_and1 (st_eq (se_call ((ok_kind_of Y).mono (by decide)) rfl Y.m_kind_of rfl (sa_cons rfl (se_var (i := 0) rfl rfl rfl rfl) (sa_cons rfl (se_var (i := 4) rfl rfl rfl rfl) sa_nil)) rfl rfl) (se_ixP (se_ixP (se_var (i := 1) rfl rfl rfl rfl) se_int (fun _ _ => rfl)) (se_var (i := 5) rfl rfl rfl rfl) (fun _ _ => rfl)))))) (sss_cons (ss_lset (se_var (i := 4) rfl rfl rfl rfl) (se_var (i := 2) rfl rfl rfl rfl) (se_var (i := 5) rfl rfl rfl rfl) rfl (fun _ _ => rfl) (fun _ => rfl) (fun _ => rfl))
  sss_nil) sss_nil)
  (sss_cons (ss_ret (se_eq (se_ixP (se_var (i := 2) rfl rfl rfl rfl) (se_var (i := 5) rfl rfl rfl rfl) (fun _ _ => rfl)) (se_var (i := 4) rfl rfl rfl rfl)))
  sss_nil))) sss_nil)
  (sss_cons (ss_if (st_eq (se_ixP (se_var (i := 3) rfl rfl rfl rfl) se_int (fun _ _ => rfl)) se_str) (sss_cons (ss_ret (se_eq (se_var (i := 3) rfl rfl rfl rfl) (se_var (i := 4) rfl rfl rfl rfl)))
  sss_nil) sss_nil)
  (sss_cons (ss_ret (se_and (se_eq (se_ixP (se_var (i := 4) rfl rfl rfl rfl) se_int (fun _ _ => rfl)) se_str) (se_one (se_eq (se_ixP (se_var (i := 4) rfl rfl rfl rfl) se_int (fun _ _ => rfl)) (se_ixP (se_var (i := 3) rfl rfl rfl rfl) se_int (fun _ _ => rfl))))))
  sss_nil)))
theorem ok_fits_at (Y : Fx T) : FnF T 3 (He.fAd T.K ("fits_at", none)) 5 f_fits_at [] := let ⟨_, F⟩ := Y.f_fits_at; FnF.of F sc_fits_at (F.bindsN (ps := ["ground", "rule", "found", "pattern", "here"]) (fun _ _ _ _ _ _ us hl => match us, hl with | [_, _, _, _, _], _ => rfl)) (s_fits_at Y) (Nat.le_refl _)
def n_fitting : List Str := ["ground", "rule", "term", "found", "waiting", "pattern", "here"]
theorem sc_fitting : L2.FnScope n_fitting ["ground", "rule", "term"] (defScope t_fitting) := ⟨rfl, rfl, rfl, by decide +kernel, rfl, by decide +kernel, by decide +kernel⟩
theorem s_fitting (Y : Fx T) : SSs T 3 n_fitting (defScope t_fitting) (defBody t_fitting) d_fitting :=
  (sss_cons (ss_set (i := 3) rfl rfl (se_mul (se_lst (sa_cons rfl se_non sa_nil)) (se_len rfl rfl Y.g_len (sa_cons rfl (se_ixP (se_var (i := 1) rfl rfl rfl rfl) se_int (fun _ _ => rfl)) sa_nil) rfl)) rfl)
  (sss_cons (ss_set (i := 4) rfl rfl (se_lst (sa_cons rfl (se_tup (sa_cons rfl (se_ixP (se_var (i := 1) rfl rfl rfl rfl) se_int (fun _ _ => rfl)) (sa_cons rfl (se_var (i := 2) rfl rfl rfl rfl) sa_nil))) sa_nil)) rfl)
  (sss_cons (ss_while (st_ne (se_var (i := 4) rfl rfl rfl rfl) (se_lst sa_nil)) (sss_cons (ss_unp (sg_tup (sgs_cons (sg_name (i := 5) rfl rfl) (sgs_cons (sg_name (i := 6) rfl rfl) sgs_nil rfl) rfl) rfl rfl) (se_pop (se_var (i := 4) rfl rfl rfl rfl) rfl rfl) rfl rfl)
  (sss_cons (ss_if (st_not (st_val (fun _ _ => rfl) (se_call ((ok_fits_at Y).mono (by decide)) rfl Y.m_fits_at rfl (sa_cons rfl (se_var (i := 0) rfl rfl rfl rfl) (sa_cons rfl (se_var (i := 1) rfl rfl rfl rfl) (sa_cons rfl (se_var (i := 3) rfl rfl rfl rfl) (sa_cons rfl (se_var (i := 5) rfl rfl rfl rfl) (sa_cons rfl (se_var (i := 6) rfl rfl rfl rfl) sa_nil))))) rfl rfl))) (sss_cons (ss_ret se_non)
  sss_nil) sss_nil)
  (sss_cons (ss_if (st_eq (se_ixP (se_var (i := 5) rfl rfl rfl rfl) se_int (fun _ _ => rfl)) se_str) (sss_cons (ss_expr (se_extend (se_var (i := 4) rfl rfl rfl rfl) (sa_cons rfl (se_listZip rfl rfl rfl Y.g_list rfl Y.g_zip (sa_cons rfl (se_ixP (se_var (i := 5) rfl rfl rfl rfl) se_int (fun _ _ => rfl)) (sa_cons rfl (se_ixP (se_var (i := 6) rfl rfl rfl rfl) se_int (fun _ _ => rfl)) sa_nil)) rfl rfl) sa_nil) rfl rfl rfl) rfl)
  sss_nil) sss_nil)
  sss_nil))))
  (sss_cons (ss_ret (se_tuple rfl rfl Y.g_tuple (sa_cons rfl (se_var (i := 3) rfl rfl rfl rfl) sa_nil) rfl))
  sss_nil))))
theorem ok_fitting (Y : Fx T) : FnF T 4 (He.fAd T.K ("fitting", none)) 3 f_fitting [] := let ⟨_, F⟩ := Y.f_fitting; FnF.of F sc_fitting (F.bindsN (ps := ["ground", "rule", "term"]) (fun _ _ _ _ _ _ us hl => match us, hl with | [_, _, _], _ => rfl)) (s_fitting Y) (Nat.le_refl _)
def n_filled : List Str := ["term", "parts", "some", "part"]
theorem sc_filled : L2.FnScope n_filled ["term", "parts"] (defScope t_filled) := ⟨rfl, rfl, rfl, by decide +kernel, rfl, by decide +kernel, by decide +kernel⟩
theorem s_filled (Y : Fx T) {k : Nat} (hk : 0 ≤ k) {rec : Fn} (hrec : FnF T k (He.fAd T.K ("filled", none)) 2 rec []) : SSs T k n_filled (defScope t_filled) (defBody t_filled) (d_filled rec) :=
  (sss_cons (ss_if (st_eq (se_ixP (se_var (i := 0) rfl rfl rfl rfl) se_int (fun _ _ => rfl)) se_str) (sss_cons (ss_ret (se_ixP (se_var (i := 1) rfl rfl rfl rfl) (se_ixP (se_var (i := 0) rfl rfl rfl rfl) se_int (fun _ _ => rfl)) (fun _ _ => rfl)))
  sss_nil) sss_nil)
  (sss_cons (ss_if (st_eq (se_ixP (se_var (i := 0) rfl rfl rfl rfl) se_int (fun _ _ => rfl)) se_str) (sss_cons (ss_ret (se_var (i := 0) rfl rfl rfl rfl))
  sss_nil) sss_nil)
  (sss_cons (ss_set (i := 2) rfl rfl (se_lst sa_nil) rfl)
  (sss_cons (ss_for (si_seq (se_ixP (se_var (i := 0) rfl rfl rfl rfl) se_int (fun _ _ => rfl))) (sg_name (i := 3) rfl rfl) (sss_cons (ss_expr (se_append (se_var (i := 2) rfl rfl rfl rfl) (sa_cons rfl (se_call hrec rfl Y.m_filled rfl (sa_cons rfl (se_var (i := 3) rfl rfl rfl rfl) (sa_cons rfl (se_var (i := 1) rfl rfl rfl rfl) sa_nil)) rfl rfl) sa_nil) rfl rfl rfl) rfl)
  sss_nil) rfl)
  (sss_cons (ss_ret (se_tup (sa_cons rfl se_str (sa_cons rfl (se_ixP (se_var (i := 0) rfl rfl rfl rfl) se_int (fun _ _ => rfl)) (sa_cons rfl (se_tuple rfl rfl Y.g_tuple (sa_cons rfl (se_var (i := 2) rfl rfl rfl rfl) sa_nil) rfl) sa_nil)))))
  sss_nil)))))
theorem ok_filled (Y : Fx T) : ∀ n, FnF T (1 + n) (He.fAd T.K ("filled", none)) 2 (f_filled n) []
  | 0 => let ⟨_, F⟩ := Y.f_filled; FnF.of F sc_filled (F.bindsN (ps := ["term", "parts"]) (fun _ _ _ _ _ _ us hl => match us, hl with | [_, _], _ => rfl)) (sss_bad (k := 0)) (Nat.le_refl _)
  | n + 1 => let ⟨_, F⟩ := Y.f_filled; FnF.of F sc_filled (F.bindsN (ps := ["term", "parts"]) (fun _ _ _ _ _ _ us hl => match us, hl with | [_, _], _ => rfl)) (s_filled Y (k := 1 + n) (by omega) (ok_filled Y n |>.mono (by omega))) (by omega)
def n_need : List Str := ["truth"]
theorem sc_need : L2.FnScope n_need ["truth"] (defScope t_need) := ⟨rfl, rfl, rfl, by decide +kernel, rfl, by decide +kernel, by decide +kernel⟩
theorem s_need (Y : Fx T) : SSs T 0 n_need (defScope t_need) (defBody t_need) d_need :=
  (sss_cons (ss_if (st_not (st_val (fun _ _ => rfl) (se_var (i := 0) rfl rfl rfl rfl))) (sss_cons ss_never
  sss_nil) sss_nil)
  sss_nil)
theorem ok_need (Y : Fx T) : FnF T 1 (He.fAd T.K ("need", none)) 1 f_need [] := let ⟨_, F⟩ := Y.f_need; FnF.of F sc_need (F.bindsN (ps := ["truth"]) (fun _ _ _ _ _ _ us hl => match us, hl with | [_], _ => rfl)) (s_need Y) (Nat.le_refl _)
def n_is_list_of_texts : List Str := ["thing", "most", "one"]
theorem sc_is_list_of_texts : L2.FnScope n_is_list_of_texts ["thing", "most"] (defScope t_is_list_of_texts) := ⟨rfl, rfl, rfl, by decide +kernel, rfl, by decide +kernel, by decide +kernel⟩
theorem s_is_list_of_texts (Y : Fx T) : SSs T 0 n_is_list_of_texts (defScope t_is_list_of_texts) (defBody t_is_list_of_texts) d_is_list_of_texts :=
  (sss_cons (ss_ret (se_and (se_isi rfl rfl Y.g_isinstance (sa_cons rfl (se_var (i := 0) rfl rfl rfl rfl) (sa_cons rfl (se_cls (n := "list") rfl Y.g_list (by decide +kernel) (by decide) rfl) sa_nil)) rfl rfl) (se_and (se_le (se_len rfl rfl Y.g_len (sa_cons rfl (se_var (i := 0) rfl rfl rfl rfl) sa_nil) rfl) (se_var (i := 1) rfl rfl rfl rfl)) (se_one (se_all rfl rfl Y.g_all (sa_cons rfl (se_lc (own := [("one", 2)])  (si_seq (se_var (i := 0) rfl rfl rfl rfl)) (by rfl) (sg_name (i := 2) rfl rfl) sts_nil (se_isi rfl rfl Y.g_isinstance (sa_cons rfl (se_var (i := 2) rfl rfl rfl rfl) (sa_cons rfl (se_cls (n := "str") rfl Y.g_str (by decide +kernel) (by decide) rfl) sa_nil)) rfl rfl) rfl (by decide)) sa_nil) rfl)))))
  sss_nil)
theorem ok_is_list_of_texts (Y : Fx T) : FnF T 1 (He.fAd T.K ("is_list_of_texts", none)) 2 f_is_list_of_texts [] := let ⟨_, F⟩ := Y.f_is_list_of_texts; FnF.of F sc_is_list_of_texts (F.bindsN (ps := ["thing", "most"]) (fun _ _ _ _ _ _ us hl => match us, hl with | [_, _], _ => rfl)) (s_is_list_of_texts Y) (Nat.le_refl _)
def n_Ground_is_new : List Str := ["self", "thing"]
theorem sc_Ground_is_new : L2.FnScope n_Ground_is_new ["self", "thing"] (defScope t_Ground_is_new) := ⟨rfl, rfl, rfl, by decide +kernel, rfl, by decide +kernel, by decide +kernel⟩
theorem s_Ground_is_new (Y : Fx T) : SSs T 1 n_Ground_is_new (defScope t_Ground_is_new) (defBody t_Ground_is_new) d_Ground_is_new :=
  (sss_cons (ss_if (st_not (st_val (fun _ _ => rfl) (se_call ((ok_is_told_name Y).mono (by decide)) rfl Y.m_is_told_name rfl (sa_cons rfl (se_var (i := 1) rfl rfl rfl rfl) sa_nil) rfl rfl))) (sss_cons (ss_ret se_bl)
  sss_nil) sss_nil)
  (sss_cons (ss_ret (se_and (se_notin (se_var (i := 1) rfl rfl rfl rfl) (se_att Y.a_makers_row (se_var (i := 0) rfl rfl rfl rfl) rfl) rfl) (se_one (se_notin (se_var (i := 1) rfl rfl rfl rfl) (se_att Y.a_takes_row (se_var (i := 0) rfl rfl rfl rfl) rfl) rfl))))
  sss_nil))
theorem ok_Ground_is_new (Y : Fx T) : FnF T 2 (He.fAd T.K ("Ground", some "is_new")) 2 f_Ground_is_new [] := let ⟨_, F⟩ := Y.f_Ground_is_new; FnF.of F sc_Ground_is_new (F.bindsN (ps := ["self", "thing"]) (fun _ _ _ _ _ _ us hl => match us, hl with | [_, _], _ => rfl)) (s_Ground_is_new Y) (Nat.le_refl _)
theorem tm_is_new (Y : Fx T) : MtF T 2 "is_new" mt_is_new := MtF.of1 Y.k_Ground Y.t_Ground_is_new (ok_Ground_is_new Y)
def n_Ground_is_open : List Str := ["self", "thing"]
theorem sc_Ground_is_open : L2.FnScope n_Ground_is_open ["self", "thing"] (defScope t_Ground_is_open) := ⟨rfl, rfl, rfl, by decide +kernel, rfl, by decide +kernel, by decide +kernel⟩
theorem s_Ground_is_open (Y : Fx T) : SSs T 1 n_Ground_is_open (defScope t_Ground_is_open) (defBody t_Ground_is_open) d_Ground_is_open :=
  (sss_cons (ss_if (st_val (fun _ _ => rfl) (se_meth ((tm_is_kind Y).mono (by decide)) (se_var (i := 0) rfl rfl rfl rfl) (sa_cons rfl (se_var (i := 1) rfl rfl rfl rfl) sa_nil) rfl rfl rfl rfl rfl)) (sss_cons (ss_ret (se_eq (se_ixP (se_att Y.a_makers_row (se_var (i := 0) rfl rfl rfl rfl) rfl) (se_var (i := 1) rfl rfl rfl rfl) (fun _ _ => rfl)) (se_lst sa_nil)))
  sss_nil) sss_nil)
  (sss_cons (ss_ret (se_and (se_meth ((tm_is_work Y).mono (by decide)) (se_var (i := 0) rfl rfl rfl rfl) (sa_cons rfl (se_var (i := 1) rfl rfl rfl rfl) sa_nil) rfl rfl rfl rfl rfl) (se_one (se_eq (se_ixP (se_att Y.a_rights_row (se_var (i := 0) rfl rfl rfl rfl) rfl) (se_var (i := 1) rfl rfl rfl rfl) (fun _ _ => rfl)) (se_lst sa_nil)))))
  sss_nil))
theorem ok_Ground_is_open (Y : Fx T) : FnF T 2 (He.fAd T.K ("Ground", some "is_open")) 2 f_Ground_is_open [] := let ⟨_, F⟩ := Y.f_Ground_is_open; FnF.of F sc_Ground_is_open (F.bindsN (ps := ["self", "thing"]) (fun _ _ _ _ _ _ us hl => match us, hl with | [_, _], _ => rfl)) (s_Ground_is_open Y) (Nat.le_refl _)
theorem tm_is_open (Y : Fx T) : MtF T 2 "is_open" mt_is_open := MtF.of1 Y.k_Ground Y.t_Ground_is_open (ok_Ground_is_open Y)
def n_Ground_check_right : List Str := ["self", "right", "gives", "let", "one"]
theorem sc_Ground_check_right : L2.FnScope n_Ground_check_right ["self", "right", "gives", "let"] (defScope t_Ground_check_right) := ⟨rfl, rfl, rfl, by decide +kernel, rfl, by decide +kernel, by decide +kernel⟩
theorem s_Ground_check_right (Y : Fx T) : SSs T 14 n_Ground_check_right (defScope t_Ground_check_right) (defBody t_Ground_check_right) d_Ground_check_right :=
  (sss_cons (ss_expr (se_call ((ok_need Y).mono (by decide)) rfl Y.m_need rfl (sa_cons rfl (se_and (se_eq (se_call ((ok_kind_or_none Y 12).mono (by decide)) rfl Y.m_kind_or_none rfl (sa_cons rfl (se_var (i := 0) rfl rfl rfl rfl) (sa_cons rfl (se_var (i := 1) rfl rfl rfl rfl) sa_nil)) rfl rfl) (se_var (i := 2) rfl rfl rfl rfl)) (se_one (se_le (se_call ((ok_signs_of Y).mono (by decide)) rfl Y.m_signs_of rfl (sa_cons rfl (se_var (i := 1) rfl rfl rfl rfl) sa_nil) rfl rfl) (se_con rfl Y.c_MOST_IN_RIGHT rfl)))) sa_nil) rfl rfl) rfl)
  (sss_cons (ss_expr (se_call ((ok_need Y).mono (by decide)) rfl Y.m_need rfl (sa_cons rfl (se_all rfl rfl Y.g_all (sa_cons rfl (se_lc (own := [("one", 4)])  (si_seq (se_call ((ok_names_of Y).mono (by decide)) rfl Y.m_names_of rfl (sa_cons rfl (se_var (i := 1) rfl rfl rfl rfl) sa_nil) rfl rfl)) (by rfl) (sg_name (i := 4) rfl rfl) sts_nil (se_in (se_var (i := 4) rfl rfl rfl rfl) (se_var (i := 3) rfl rfl rfl rfl) rfl) rfl (by decide)) sa_nil) rfl) sa_nil) rfl rfl) rfl)
  (sss_cons (ss_expr (se_call ((ok_need Y).mono (by decide)) rfl Y.m_need rfl (sa_cons rfl (se_not (se_any rfl rfl Y.g_any (sa_cons rfl (se_lc (own := [("one", 4)])  (si_seq (se_call ((ok_all_within Y).mono (by decide)) rfl Y.m_all_within rfl (sa_cons rfl (se_var (i := 1) rfl rfl rfl rfl) sa_nil) rfl rfl)) (by rfl) (sg_name (i := 4) rfl rfl) sts_nil (se_and (se_eq (se_ixP (se_var (i := 4) rfl rfl rfl rfl) se_int (fun _ _ => rfl)) se_str) (se_one (se_meth ((tm_is_open Y).mono (by decide)) (se_var (i := 0) rfl rfl rfl rfl) (sa_cons rfl (se_ixP (se_var (i := 4) rfl rfl rfl rfl) se_int (fun _ _ => rfl)) sa_nil) rfl rfl rfl rfl rfl))) rfl (by decide)) sa_nil) rfl)) sa_nil) rfl rfl) rfl)
  sss_nil)))
theorem ok_Ground_check_right (Y : Fx T) : FnF T 15 (He.fAd T.K ("Ground", some "check_right")) 4 f_Ground_check_right [] := let ⟨_, F⟩ := Y.f_Ground_check_right; FnF.of F sc_Ground_check_right (F.bindsN (ps := ["self", "right", "gives", "let"]) (fun _ _ _ _ _ _ us hl => match us, hl with | [_, _, _, _], _ => rfl)) (s_Ground_check_right Y) (Nat.le_refl _)
theorem tm_check_right (Y : Fx T) : MtF T 15 "check_right" mt_check_right := MtF.of1 Y.k_Ground Y.t_Ground_check_right (ok_Ground_check_right Y)
def n_Ground_check_falling : List Str := ["self", "name", "right", "maker", "at", "inner", "outer", "one", "part"]
theorem sc_Ground_check_falling : L2.FnScope n_Ground_check_falling ["self", "name", "right", "maker"] (defScope t_Ground_check_falling) := ⟨rfl, rfl, rfl, by decide +kernel, rfl, by decide +kernel, by decide +kernel⟩
theorem s_Ground_check_falling (Y : Fx T) : SSs T 15 n_Ground_check_falling (defScope t_Ground_check_falling) (defBody t_Ground_check_falling) d_Ground_check_falling :=
  (sss_cons (ss_set (i := 4) rfl rfl (se_ixP (se_att Y.a_falls_row (se_var (i := 0) rfl rfl rfl rfl) rfl) (se_var (i := 1) rfl rfl rfl rfl) (fun _ _ => rfl)) rfl)
  (sss_cons (ss_set (i := 5) rfl rfl (se_listZip rfl rfl rfl Y.g_list rfl Y.g_zip (sa_cons rfl (se_con rfl Y.c_INNER rfl) (sa_cons rfl (se_ixP (se_att Y.a_takes_row (se_var (i := 0) rfl rfl rfl rfl) rfl) (se_var (i := 3) rfl rfl rfl rfl) (fun _ _ => rfl)) sa_nil)) rfl rfl) rfl)
  (sss_cons (ss_set (i := 6) rfl rfl (se_listZip rfl rfl rfl Y.g_list rfl Y.g_zip (sa_cons rfl (se_con rfl Y.c_OUTER rfl) (sa_cons rfl (se_ixP (se_att Y.a_takes_row (se_var (i := 0) rfl rfl rfl rfl) rfl) (se_var (i := 1) rfl rfl rfl rfl) (fun _ _ => rfl)) sa_nil)) rfl rfl) rfl)
  (sss_cons (ss_expr (se_popAt (se_var (i := 6) rfl rfl rfl rfl) (sa_cons rfl (se_var (i := 4) rfl rfl rfl rfl) sa_nil) rfl rfl rfl) rfl)
  (sss_cons (ss_expr (se_meth ((tm_check_right Y).mono (by decide)) (se_var (i := 0) rfl rfl rfl rfl) (sa_cons rfl (se_var (i := 2) rfl rfl rfl rfl) (sa_cons rfl (se_ixP (se_att Y.a_gives_row (se_var (i := 0) rfl rfl rfl rfl) rfl) (se_var (i := 1) rfl rfl rfl rfl) (fun _ _ => rfl)) (sa_cons rfl (se_add (se_var (i := 6) rfl rfl rfl rfl) (se_var (i := 5) rfl rfl rfl rfl)) sa_nil))) rfl rfl rfl rfl rfl) rfl)
  (sss_cons (ss_for (si_seq (se_call ((ok_all_within Y).mono (by decide)) rfl Y.m_all_within rfl (sa_cons rfl (se_var (i := 2) rfl rfl rfl rfl) sa_nil) rfl rfl)) (sg_name (i := 7) rfl rfl) (sss_cons (ss_if (st_w (sw_and (st_eq (se_ixP (se_var (i := 7) rfl rfl rfl rfl) se_int (fun _ _ => rfl)) se_str) (sw_and1 (st_eq (se_ixP (se_var (i := 7) rfl rfl rfl rfl) se_int (fun _ _ => rfl)) (se_var (i := 1) rfl rfl rfl rfl))))) (sss_cons (ss_set (i := 8) rfl rfl (se_ixP (se_ixP (se_var (i := 7) rfl rfl rfl rfl) se_int (fun _ _ => rfl)) (se_var (i := 4) rfl rfl rfl rfl) (fun _ _ => rfl)) rfl)
  (sss_cons (ss_expr (se_call ((ok_need Y).mono (by decide)) rfl Y.m_need rfl (sa_cons rfl (se_and (se_eq (se_ixP (se_var (i := 8) rfl rfl rfl rfl) se_int (fun _ _ => rfl)) se_str) (se_one (se_in (se_slice (se_var (i := 8) rfl rfl rfl rfl) (so_some se_int) so_none) (se_var (i := 5) rfl rfl rfl rfl) rfl))) sa_nil) rfl rfl) rfl)
  sss_nil)) sss_nil)
  sss_nil) rfl)
  sss_nil))))))
theorem ok_Ground_check_falling (Y : Fx T) : FnF T 16 (He.fAd T.K ("Ground", some "check_falling")) 4 f_Ground_check_falling [] := let ⟨_, F⟩ := Y.f_Ground_check_falling; FnF.of F sc_Ground_check_falling (F.bindsN (ps := ["self", "name", "right", "maker"]) (fun _ _ _ _ _ _ us hl => match us, hl with | [_, _, _, _], _ => rfl)) (s_Ground_check_falling Y) (Nat.le_refl _)
theorem tm_check_falling (Y : Fx T) : MtF T 16 "check_falling" mt_check_falling := MtF.of1 Y.k_Ground Y.t_Ground_check_falling (ok_Ground_check_falling Y)
def n_Ground_add_kind : List Str := ["self", "thing", "name", "let", "one", "kind", "maker"]
theorem sc_Ground_add_kind : L2.FnScope n_Ground_add_kind ["self", "thing"] (defScope t_Ground_add_kind) := ⟨rfl, rfl, rfl, by decide +kernel, rfl, by decide +kernel, by decide +kernel⟩
theorem s_Ground_add_kind (Y : Fx T) : SSs T 2 n_Ground_add_kind (defScope t_Ground_add_kind) (defBody t_Ground_add_kind) d_Ground_add_kind :=
  (sss_cons (ss_expr (se_call ((ok_need Y).mono (by decide)) rfl Y.m_need rfl (sa_cons rfl (se_and (se_isi rfl rfl Y.g_isinstance (sa_cons rfl (se_var (i := 1) rfl rfl rfl rfl) (sa_cons rfl (se_cls (n := "tuple") rfl Y.g_tuple (by decide +kernel) (by decide) rfl) sa_nil)) rfl rfl) (se_and (se_eq (se_len rfl rfl Y.g_len (sa_cons rfl (se_var (i := 1) rfl rfl rfl rfl) sa_nil) rfl) se_int) (se_one (se_meth ((tm_is_new Y).mono (by decide)) (se_var (i := 0) rfl rfl rfl rfl) (sa_cons rfl (se_ixP (se_var (i := 1) rfl rfl rfl rfl) se_int (fun _ _ => rfl)) sa_nil) rfl rfl rfl rfl rfl)))) sa_nil) rfl rfl) rfl)
  (sss_cons (ss_set (i := 2) rfl rfl (se_ixP (se_var (i := 1) rfl rfl rfl rfl) se_int (fun _ _ => rfl)) rfl)
  (sss_cons (ss_expr (se_call ((ok_need Y).mono (by decide)) rfl Y.m_need rfl (sa_cons rfl (se_and (se_isi rfl rfl Y.g_isinstance (sa_cons rfl (se_ixP (se_var (i := 1) rfl rfl rfl rfl) se_int (fun _ _ => rfl)) (sa_cons rfl (se_cls (n := "list") rfl Y.g_list (by decide +kernel) (by decide) rfl) sa_nil)) rfl rfl) (se_one (se_le (se_len rfl rfl Y.g_len (sa_cons rfl (se_ixP (se_var (i := 1) rfl rfl rfl rfl) se_int (fun _ _ => rfl)) sa_nil) rfl) (se_con rfl Y.c_MOST_MAKERS rfl)))) sa_nil) rfl rfl) rfl)
  (sss_cons (ss_set (i := 3) rfl rfl (se_add (se_keys (i0 := 0) (i1 := 5) Y.a_makers_row rfl rfl rfl rfl rfl rfl rfl rfl rfl rfl rfl rfl) (se_lst (sa_cons rfl (se_var (i := 2) rfl rfl rfl rfl) sa_nil))) rfl)
  (sss_cons (ss_dput (se_lst sa_nil) (se_att Y.a_makers_row (se_var (i := 0) rfl rfl rfl rfl) rfl) (se_var (i := 2) rfl rfl rfl rfl) rfl)
  (sss_cons (ss_for (si_seq (se_ixP (se_var (i := 1) rfl rfl rfl rfl) se_int (fun _ _ => rfl))) (sg_name (i := 4) rfl rfl) (sss_cons (ss_expr (se_call ((ok_need Y).mono (by decide)) rfl Y.m_need rfl (sa_cons rfl (se_and (se_isi rfl rfl Y.g_isinstance (sa_cons rfl (se_var (i := 4) rfl rfl rfl rfl) (sa_cons rfl (se_cls (n := "tuple") rfl Y.g_tuple (by decide +kernel) (by decide) rfl) sa_nil)) rfl rfl) (se_and (se_eq (se_len rfl rfl Y.g_len (sa_cons rfl (se_var (i := 4) rfl rfl rfl rfl) sa_nil) rfl) se_int) (se_one (se_meth ((tm_is_new Y).mono (by decide)) (se_var (i := 0) rfl rfl rfl rfl) (sa_cons rfl (se_ixP (se_var (i := 4) rfl rfl rfl rfl) se_int (fun _ _ => rfl)) sa_nil) rfl rfl rfl rfl rfl)))) sa_nil) rfl rfl) rfl)
  (sss_cons (ss_expr (se_call ((ok_need Y).mono (by decide)) rfl Y.m_need rfl (sa_cons rfl (se_and (se_call ((ok_is_list_of_texts Y).mono (by decide)) rfl Y.m_is_list_of_texts rfl (sa_cons rfl (se_ixP (se_var (i := 4) rfl rfl rfl rfl) se_int (fun _ _ => rfl)) (sa_cons rfl (se_con rfl Y.c_MOST_TAKEN rfl) sa_nil)) rfl rfl) (se_one (se_all rfl rfl Y.g_all (sa_cons rfl (se_lc (own := [("kind", 5)])  (si_seq (se_ixP (se_var (i := 4) rfl rfl rfl rfl) se_int (fun _ _ => rfl))) (by rfl) (sg_name (i := 5) rfl rfl) sts_nil (se_in (se_var (i := 5) rfl rfl rfl rfl) (se_var (i := 3) rfl rfl rfl rfl) rfl) rfl (by decide)) sa_nil) rfl))) sa_nil) rfl rfl) rfl)
  (sss_cons (ss_expr (se_append (se_ixP (se_att Y.a_makers_row (se_var (i := 0) rfl rfl rfl rfl) rfl) (se_var (i := 2) rfl rfl rfl rfl) (fun _ _ => rfl)) (sa_cons rfl (se_ixP (se_var (i := 4) rfl rfl rfl rfl) se_int (fun _ _ => rfl)) sa_nil) rfl rfl rfl) rfl)
  (sss_cons (ss_dput (se_tuple rfl rfl Y.g_tuple (sa_cons rfl (se_ixP (se_var (i := 4) rfl rfl rfl rfl) se_int (fun _ _ => rfl)) sa_nil) rfl) (se_att Y.a_takes_row (se_var (i := 0) rfl rfl rfl rfl) rfl) (se_ixP (se_var (i := 4) rfl rfl rfl rfl) se_int (fun _ _ => rfl)) rfl)
  (sss_cons (ss_dput (se_var (i := 2) rfl rfl rfl rfl) (se_att Y.a_gives_row (se_var (i := 0) rfl rfl rfl rfl) rfl) (se_ixP (se_var (i := 4) rfl rfl rfl rfl) se_int (fun _ _ => rfl)) rfl)
  (sss_cons (ss_dput se_bl (se_att Y.a_maker_names (se_var (i := 0) rfl rfl rfl rfl) rfl) (se_ixP (se_var (i := 4) rfl rfl rfl rfl) se_int (fun _ _ => rfl)) rfl)
  sss_nil)))))) rfl)
  (sss_cons (ss_expr (se_call ((ok_need Y).mono (by decide)) rfl Y.m_need rfl (sa_cons rfl (se_or (se_eq (se_ixP (se_var (i := 1) rfl rfl rfl rfl) se_int (fun _ _ => rfl)) (se_lst sa_nil)) (se_one (se_any rfl rfl Y.g_any (sa_cons rfl (se_lc (own := [("maker", 6)])  (si_seq (se_ixP (se_att Y.a_makers_row (se_var (i := 0) rfl rfl rfl rfl) rfl) (se_var (i := 2) rfl rfl rfl rfl) (fun _ _ => rfl))) (by rfl) (sg_name (i := 6) rfl rfl) sts_nil (se_notin (se_var (i := 2) rfl rfl rfl rfl) (se_ixP (se_att Y.a_takes_row (se_var (i := 0) rfl rfl rfl rfl) rfl) (se_var (i := 6) rfl rfl rfl rfl) (fun _ _ => rfl)) rfl) rfl (by decide)) sa_nil) rfl))) sa_nil) rfl rfl) rfl)
  sss_nil)))))))
theorem ok_Ground_add_kind (Y : Fx T) : FnF T 3 (He.fAd T.K ("Ground", some "add_kind")) 2 f_Ground_add_kind [] := let ⟨_, F⟩ := Y.f_Ground_add_kind; FnF.of F sc_Ground_add_kind (F.bindsN (ps := ["self", "thing"]) (fun _ _ _ _ _ _ us hl => match us, hl with | [_, _], _ => rfl)) (s_Ground_add_kind Y) (Nat.le_refl _)
theorem tm_add_kind (Y : Fx T) : MtF T 3 "add_kind" mt_add_kind := MtF.of1 Y.k_Ground Y.t_Ground_add_kind (ok_Ground_add_kind Y)
def n_Ground_add_work : List Str := ["self", "thing", "name", "wanted", "gives", "at", "rights", "right", "makers", "maker", "kind"]
theorem sc_Ground_add_work : L2.FnScope n_Ground_add_work ["self", "thing"] (defScope t_Ground_add_work) := ⟨rfl, rfl, rfl, by decide +kernel, rfl, by decide +kernel, by decide +kernel⟩
theorem s_Ground_add_work (Y : Fx T) : SSs T 16 n_Ground_add_work (defScope t_Ground_add_work) (defBody t_Ground_add_work) d_Ground_add_work :=
  (sss_cons (ss_expr (se_call ((ok_need Y).mono (by decide)) rfl Y.m_need rfl (sa_cons rfl (se_and (se_isi rfl rfl Y.g_isinstance (sa_cons rfl (se_var (i := 1) rfl rfl rfl rfl) (sa_cons rfl (se_cls (n := "tuple") rfl Y.g_tuple (by decide +kernel) (by decide) rfl) sa_nil)) rfl rfl) (se_and (se_eq (se_len rfl rfl Y.g_len (sa_cons rfl (se_var (i := 1) rfl rfl rfl rfl) sa_nil) rfl) se_int) (se_one (se_meth ((tm_is_new Y).mono (by decide)) (se_var (i := 0) rfl rfl rfl rfl) (sa_cons rfl (se_ixP (se_var (i := 1) rfl rfl rfl rfl) se_int (fun _ _ => rfl)) sa_nil) rfl rfl rfl rfl rfl)))) sa_nil) rfl rfl) rfl)
  (sss_cons (ss_unp (sg_tup (sgs_cons (sg_name (i := 2) rfl rfl) (sgs_cons (sg_name (i := 3) rfl rfl) (sgs_cons (sg_name (i := 4) rfl rfl) (sgs_cons (sg_name (i := 5) rfl rfl) (sgs_cons (sg_name (i := 6) rfl rfl) sgs_nil rfl) rfl) rfl) rfl) rfl) rfl rfl) (se_var (i := 1) rfl rfl rfl rfl) rfl rfl)
  (sss_cons (ss_expr (se_call ((ok_need Y).mono (by decide)) rfl Y.m_need rfl (sa_cons rfl (se_and (se_call ((ok_is_list_of_texts Y).mono (by decide)) rfl Y.m_is_list_of_texts rfl (sa_cons rfl (se_var (i := 3) rfl rfl rfl rfl) (sa_cons rfl (se_con rfl Y.c_MOST_TAKEN rfl) sa_nil)) rfl rfl) (se_one (se_all rfl rfl Y.g_all (sa_cons rfl (se_lc (own := [("kind", 10)])  (si_seq (se_var (i := 3) rfl rfl rfl rfl)) (by rfl) (sg_name (i := 10) rfl rfl) sts_nil (se_in (se_var (i := 10) rfl rfl rfl rfl) (se_att Y.a_makers_row (se_var (i := 0) rfl rfl rfl rfl) rfl) rfl) rfl (by decide)) sa_nil) rfl))) sa_nil) rfl rfl) rfl)
  (sss_cons (ss_expr (se_call ((ok_need Y).mono (by decide)) rfl Y.m_need rfl (sa_cons rfl (se_and (se_meth ((tm_is_kind Y).mono (by decide)) (se_var (i := 0) rfl rfl rfl rfl) (sa_cons rfl (se_var (i := 4) rfl rfl rfl rfl) sa_nil) rfl rfl rfl rfl rfl) (se_one (se_isi rfl rfl Y.g_isinstance (sa_cons rfl (se_var (i := 6) rfl rfl rfl rfl) (sa_cons rfl (se_cls (n := "list") rfl Y.g_list (by decide +kernel) (by decide) rfl) sa_nil)) rfl rfl))) sa_nil) rfl rfl) rfl)
  (sss_cons (ss_if (st_is (se_var (i := 5) rfl rfl rfl rfl) se_non) (sss_cons (ss_expr (se_call ((ok_need Y).mono (by decide)) rfl Y.m_need rfl (sa_cons rfl (se_le (se_len rfl rfl Y.g_len (sa_cons rfl (se_var (i := 6) rfl rfl rfl rfl) sa_nil) rfl) se_int) sa_nil) rfl rfl) rfl)
  (sss_cons (ss_for (si_seq (se_var (i := 6) rfl rfl rfl rfl)) (sg_name (i := 7) rfl rfl) (sss_cons (ss_expr (se_meth ((tm_check_right Y).mono (by decide)) (se_var (i := 0) rfl rfl rfl rfl) (sa_cons rfl (se_var (i := 7) rfl rfl rfl rfl) (sa_cons rfl (se_var (i := 4) rfl rfl rfl rfl) (sa_cons rfl (se_listZip rfl rfl rfl Y.g_list rfl Y.g_zip (sa_cons rfl (se_con rfl Y.c_OUTER rfl) (sa_cons rfl (se_var (i := 3) rfl rfl rfl rfl) sa_nil)) rfl rfl) sa_nil))) rfl rfl rfl rfl rfl) rfl)
  sss_nil) rfl)
  sss_nil)) sss_nil)
  (sss_cons (ss_dput (se_tuple rfl rfl Y.g_tuple (sa_cons rfl (se_var (i := 3) rfl rfl rfl rfl) sa_nil) rfl) (se_att Y.a_takes_row (se_var (i := 0) rfl rfl rfl rfl) rfl) (se_var (i := 2) rfl rfl rfl rfl) rfl)
  (sss_cons (ss_dput (se_var (i := 4) rfl rfl rfl rfl) (se_att Y.a_gives_row (se_var (i := 0) rfl rfl rfl rfl) rfl) (se_var (i := 2) rfl rfl rfl rfl) rfl)
  (sss_cons (ss_dput (se_var (i := 5) rfl rfl rfl rfl) (se_att Y.a_falls_row (se_var (i := 0) rfl rfl rfl rfl) rfl) (se_var (i := 2) rfl rfl rfl rfl) rfl)
  (sss_cons (ss_dput (se_list rfl rfl Y.g_list (sa_cons rfl (se_var (i := 6) rfl rfl rfl rfl) sa_nil) rfl) (se_att Y.a_rights_row (se_var (i := 0) rfl rfl rfl rfl) rfl) (se_var (i := 2) rfl rfl rfl rfl) rfl)
  (sss_cons (ss_if (st_isnot (se_var (i := 5) rfl rfl rfl rfl) se_non) (sss_cons (ss_expr (se_call ((ok_need Y).mono (by decide)) rfl Y.m_need rfl (sa_cons rfl (se_and (se_isi rfl rfl Y.g_isinstance (sa_cons rfl (se_var (i := 5) rfl rfl rfl rfl) (sa_cons rfl (se_cls (n := "int") rfl Y.g_int (by decide +kernel) (by decide) rfl) sa_nil)) rfl rfl) (se_and (se_not (se_isi rfl rfl Y.g_isinstance (sa_cons rfl (se_var (i := 5) rfl rfl rfl rfl) (sa_cons rfl (se_cls (n := "bool") rfl Y.g_bool (by decide +kernel) (by decide) rfl) sa_nil)) rfl rfl)) (se_one (se_leLt se_int (se_var (i := 5) rfl rfl rfl rfl) (se_len rfl rfl Y.g_len (sa_cons rfl (se_var (i := 3) rfl rfl rfl rfl) sa_nil) rfl) rfl)))) sa_nil) rfl rfl) rfl)
  (sss_cons (ss_set (i := 8) rfl rfl (se_ixP (se_att Y.a_makers_row (se_var (i := 0) rfl rfl rfl rfl) rfl) (se_ixP (se_var (i := 3) rfl rfl rfl rfl) (se_var (i := 5) rfl rfl rfl rfl) (fun _ _ => rfl)) (fun _ _ => rfl)) rfl)
  (sss_cons (ss_expr (se_call ((ok_need Y).mono (by decide)) rfl Y.m_need rfl (sa_cons rfl (se_and (se_ne (se_var (i := 8) rfl rfl rfl rfl) (se_lst sa_nil)) (se_one (se_eq (se_len rfl rfl Y.g_len (sa_cons rfl (se_var (i := 6) rfl rfl rfl rfl) sa_nil) rfl) (se_len rfl rfl Y.g_len (sa_cons rfl (se_var (i := 8) rfl rfl rfl rfl) sa_nil) rfl)))) sa_nil) rfl rfl) rfl)
  (sss_cons (ss_for (si_zip rfl rfl Y.g_zip (sa_cons rfl (se_var (i := 6) rfl rfl rfl rfl) (sa_cons rfl (se_var (i := 8) rfl rfl rfl rfl) sa_nil)) rfl rfl) (sg_tup (sgs_cons (sg_name (i := 7) rfl rfl) (sgs_cons (sg_name (i := 9) rfl rfl) sgs_nil rfl) rfl) rfl rfl) (sss_cons (ss_expr (se_meth ((tm_check_falling Y).mono (by decide)) (se_var (i := 0) rfl rfl rfl rfl) (sa_cons rfl (se_var (i := 2) rfl rfl rfl rfl) (sa_cons rfl (se_var (i := 7) rfl rfl rfl rfl) (sa_cons rfl (se_var (i := 9) rfl rfl rfl rfl) sa_nil))) rfl rfl rfl rfl rfl) rfl)
  sss_nil) rfl)
  sss_nil)))) sss_nil)
  sss_nil))))))))))
theorem ok_Ground_add_work (Y : Fx T) : FnF T 17 (He.fAd T.K ("Ground", some "add_work")) 2 f_Ground_add_work [] := let ⟨_, F⟩ := Y.f_Ground_add_work; FnF.of F sc_Ground_add_work (F.bindsN (ps := ["self", "thing"]) (fun _ _ _ _ _ _ us hl => match us, hl with | [_, _], _ => rfl)) (s_Ground_add_work Y) (Nat.le_refl _)
theorem tm_add_work (Y : Fx T) : MtF T 17 "add_work" mt_add_work := MtF.of1 Y.k_Ground Y.t_Ground_add_work (ok_Ground_add_work Y)
def n_Ground___init__ : List Str := ["self", "kinds", "works", "thing"]
theorem sc_Ground___init__ : L2.FnScope n_Ground___init__ ["self", "kinds", "works"] (defScope t_Ground___init__) := ⟨rfl, rfl, rfl, by decide +kernel, rfl, by decide +kernel, by decide +kernel⟩
theorem s_Ground___init__ (Y : Fx T) : SSs T 17 n_Ground___init__ (defScope t_Ground___init__) (defBody t_Ground___init__) d_Ground___init__ :=
  (sss_cons (ss_fset Y.a_makers_row se_dic0 (se_var (i := 0) rfl rfl rfl rfl) rfl)
  (sss_cons (ss_fset Y.a_takes_row se_dic0 (se_var (i := 0) rfl rfl rfl rfl) rfl)
  (sss_cons (ss_fset Y.a_gives_row se_dic0 (se_var (i := 0) rfl rfl rfl rfl) rfl)
  (sss_cons (ss_fset Y.a_maker_names se_dic0 (se_var (i := 0) rfl rfl rfl rfl) rfl)
  (sss_cons (ss_fset Y.a_falls_row se_dic0 (se_var (i := 0) rfl rfl rfl rfl) rfl)
  (sss_cons (ss_fset Y.a_rights_row se_dic0 (se_var (i := 0) rfl rfl rfl rfl) rfl)
  (sss_cons (ss_expr (se_call ((ok_need Y).mono (by decide)) rfl Y.m_need rfl (sa_cons rfl (se_and (se_isi rfl rfl Y.g_isinstance (sa_cons rfl (se_var (i := 1) rfl rfl rfl rfl) (sa_cons rfl (se_cls (n := "list") rfl Y.g_list (by decide +kernel) (by decide) rfl) sa_nil)) rfl rfl) (se_one (se_le (se_len rfl rfl Y.g_len (sa_cons rfl (se_var (i := 1) rfl rfl rfl rfl) sa_nil) rfl) (se_con rfl Y.c_MOST_KINDS rfl)))) sa_nil) rfl rfl) rfl)
  (sss_cons (ss_expr (se_call ((ok_need Y).mono (by decide)) rfl Y.m_need rfl (sa_cons rfl (se_and (se_isi rfl rfl Y.g_isinstance (sa_cons rfl (se_var (i := 2) rfl rfl rfl rfl) (sa_cons rfl (se_cls (n := "list") rfl Y.g_list (by decide +kernel) (by decide) rfl) sa_nil)) rfl rfl) (se_one (se_le (se_len rfl rfl Y.g_len (sa_cons rfl (se_var (i := 2) rfl rfl rfl rfl) sa_nil) rfl) (se_con rfl Y.c_MOST_WORKS rfl)))) sa_nil) rfl rfl) rfl)
  (sss_cons (ss_for (si_seq (se_var (i := 1) rfl rfl rfl rfl)) (sg_name (i := 3) rfl rfl) (sss_cons (ss_expr (se_meth ((tm_add_kind Y).mono (by decide)) (se_var (i := 0) rfl rfl rfl rfl) (sa_cons rfl (se_var (i := 3) rfl rfl rfl rfl) sa_nil) rfl rfl rfl rfl rfl) rfl)
  sss_nil) rfl)
  (sss_cons (ss_for (si_seq (se_var (i := 2) rfl rfl rfl rfl)) (sg_name (i := 3) rfl rfl) (sss_cons (ss_expr (se_meth ((tm_add_work Y).mono (by decide)) (se_var (i := 0) rfl rfl rfl rfl) (sa_cons rfl (se_var (i := 3) rfl rfl rfl rfl) sa_nil) rfl rfl rfl rfl rfl) rfl)
  sss_nil) rfl)
  sss_nil))))))))))
theorem ok_Ground___init__ (Y : Fx T) : FnF T 18 (He.fAd T.K ("Ground", some "__init__")) 3 f_Ground___init__ [] := let ⟨_, F⟩ := Y.f_Ground___init__; FnF.of F sc_Ground___init__ (F.bindsN (ps := ["self", "kinds", "works"]) (fun _ _ _ _ _ _ us hl => match us, hl with | [_, _, _], _ => rfl)) (s_Ground___init__ Y) (Nat.le_refl _)
def n__law_cell_at : List Str := ["script", "k"]
theorem sc__law_cell_at : L2.FnScope n__law_cell_at ["script", "k"] (defScope t__law_cell_at) := ⟨rfl, rfl, rfl, by decide +kernel, rfl, by decide +kernel, by decide +kernel⟩
theorem s__law_cell_at (Y : Fx T) : SSs T 0 n__law_cell_at (defScope t__law_cell_at) (defBody t__law_cell_at) d__law_cell_at :=
  (sss_cons (ss_if (st_lt (se_var (i := 1) rfl rfl rfl rfl) (se_len rfl rfl Y.g_len (sa_cons rfl (se_var (i := 0) rfl rfl rfl rfl) sa_nil) rfl)) (sss_cons (ss_ret (se_ixP (se_var (i := 0) rfl rfl rfl rfl) (se_var (i := 1) rfl rfl rfl rfl) (fun _ _ => rfl)))
  sss_nil) sss_nil)
  (sss_cons (ss_ret se_int)
  sss_nil))
theorem ok__law_cell_at (Y : Fx T) : FnF T 1 (He.fAd T.K ("_law_cell_at", none)) 2 f__law_cell_at [] := let ⟨_, F⟩ := Y.f__law_cell_at; FnF.of F sc__law_cell_at (F.bindsN (ps := ["script", "k"]) (fun _ _ _ _ _ _ us hl => match us, hl with | [_, _], _ => rfl)) (s__law_cell_at Y) (Nat.le_refl _)
def n__law_mix : List Str := ["number"]
theorem sc__law_mix : L2.FnScope n__law_mix ["number"] (defScope t__law_mix) := ⟨rfl, rfl, rfl, by decide +kernel, rfl, by decide +kernel, by decide +kernel⟩
theorem s__law_mix (Y : Fx T) : SSs T 0 n__law_mix (defScope t__law_mix) (defBody t__law_mix) d__law_mix :=
  (sss_cons (ss_set (i := 0) rfl rfl (se_mod (se_add (se_mul (se_mod (se_var (i := 0) rfl rfl rfl rfl) se_int) se_int) se_int) se_int) rfl)
  (sss_cons (ss_ret (se_mod (se_mul (se_var (i := 0) rfl rfl rfl rfl) (se_var (i := 0) rfl rfl rfl rfl)) se_int))
  sss_nil))
theorem ok__law_mix (Y : Fx T) : FnF T 1 (He.fAd T.K ("_law_mix", none)) 1 f__law_mix [] := let ⟨_, F⟩ := Y.f__law_mix; FnF.of F sc__law_mix (F.bindsN (ps := ["number"]) (fun _ _ _ _ _ _ us hl => match us, hl with | [_], _ => rfl)) (s__law_mix Y) (Nat.le_refl _)
def n__law_source : List Str := ["script", "k", "cell"]
theorem sc__law_source : L2.FnScope n__law_source ["script", "k"] (defScope t__law_source) := ⟨rfl, rfl, rfl, by decide +kernel, rfl, by decide +kernel, by decide +kernel⟩
theorem s__law_source (Y : Fx T) : SSs T 1 n__law_source (defScope t__law_source) (defBody t__law_source) d__law_source :=
  (sss_cons (ss_set (i := 2) rfl rfl (se_call ((ok__law_cell_at Y).mono (by decide)) rfl Y.m__law_cell_at rfl (sa_cons rfl (se_var (i := 0) rfl rfl rfl rfl) (sa_cons rfl (se_var (i := 1) rfl rfl rfl rfl) sa_nil)) rfl rfl) rfl)
  (sss_cons (ss_if (st_ge (se_var (i := 2) rfl rfl rfl rfl) (se_pow se_int se_int)) (sss_cons (ss_ret (se_lst (sa_cons rfl (se_var (i := 2) rfl rfl rfl rfl) (sa_cons rfl (se_call ((ok__law_mix Y).mono (by decide)) rfl Y.m__law_mix rfl (sa_cons rfl (se_add (se_var (i := 2) rfl rfl rfl rfl) (se_var (i := 1) rfl rfl rfl rfl)) sa_nil) rfl rfl) sa_nil))))
  sss_nil) sss_nil)
  (sss_cons (ss_ret (se_lst (sa_cons rfl se_int (sa_cons rfl (se_call ((ok__law_mix Y).mono (by decide)) rfl Y.m__law_mix rfl (sa_cons rfl (se_add (se_call ((ok__law_mix Y).mono (by decide)) rfl Y.m__law_mix rfl (sa_cons rfl (se_add (se_var (i := 2) rfl rfl rfl rfl) (se_mul se_int (se_var (i := 1) rfl rfl rfl rfl))) sa_nil) rfl rfl) (se_var (i := 1) rfl rfl rfl rfl)) sa_nil) rfl rfl) sa_nil))))
  sss_nil)))
theorem ok__law_source (Y : Fx T) : FnF T 2 (He.fAd T.K ("_law_source", none)) 2 f__law_source [] := let ⟨_, F⟩ := Y.f__law_source; FnF.of F sc__law_source (F.bindsN (ps := ["script", "k"]) (fun _ _ _ _ _ _ us hl => match us, hl with | [_, _], _ => rfl)) (s__law_source Y) (Nat.le_refl _)
def n__law_take : List Str := ["source", "many", "digit"]
theorem sc__law_take : L2.FnScope n__law_take ["source", "many"] (defScope t__law_take) := ⟨rfl, rfl, rfl, by decide +kernel, rfl, by decide +kernel, by decide +kernel⟩
theorem s__law_take (Y : Fx T) : SSs T 1 n__law_take (defScope t__law_take) (defBody t__law_take) d__law_take :=
  (sss_cons (ss_if (st_gt (se_ixP (se_var (i := 0) rfl rfl rfl rfl) se_int (fun _ _ => rfl)) se_int) (sss_cons (ss_set (i := 2) rfl rfl (se_mod (se_ixP (se_var (i := 0) rfl rfl rfl rfl) se_int (fun _ _ => rfl)) (se_var (i := 1) rfl rfl rfl rfl)) rfl)
  (sss_cons (ss_lset (se_div (se_ixP (se_var (i := 0) rfl rfl rfl rfl) se_int (fun _ _ => rfl)) (se_var (i := 1) rfl rfl rfl rfl)) (se_var (i := 0) rfl rfl rfl rfl) se_int rfl (fun _ _ => rfl) (fun _ => rfl) (fun _ => rfl))
  (sss_cons (ss_ret (se_var (i := 2) rfl rfl rfl rfl))
  sss_nil))) sss_nil)
  (sss_cons (ss_lset (se_call ((ok__law_mix Y).mono (by decide)) rfl Y.m__law_mix rfl (sa_cons rfl (se_add (se_ixP (se_var (i := 0) rfl rfl rfl rfl) se_int (fun _ _ => rfl)) se_int) sa_nil) rfl rfl) (se_var (i := 0) rfl rfl rfl rfl) se_int rfl (fun _ _ => rfl) (fun _ => rfl) (fun _ => rfl))
  (sss_cons (ss_ret (se_mod (se_div (se_ixP (se_var (i := 0) rfl rfl rfl rfl) se_int (fun _ _ => rfl)) se_int) (se_var (i := 1) rfl rfl rfl rfl)))
  sss_nil)))
theorem ok__law_take (Y : Fx T) : FnF T 2 (He.fAd T.K ("_law_take", none)) 2 f__law_take [] := let ⟨_, F⟩ := Y.f__law_take; FnF.of F sc__law_take (F.bindsN (ps := ["source", "many"]) (fun _ _ _ _ _ _ us hl => match us, hl with | [_, _], _ => rfl)) (s__law_take Y) (Nat.le_refl _)
def n__law_kinds : List Str := ["kinds"]
theorem sc__law_kinds : L2.FnScope n__law_kinds [] (defScope t__law_kinds) := ⟨rfl, rfl, rfl, by decide +kernel, rfl, by decide +kernel, by decide +kernel⟩
theorem s__law_kinds (Y : Fx T) : SSs T 0 n__law_kinds (defScope t__law_kinds) (defBody t__law_kinds) d__law_kinds :=
  (sss_cons (ss_set (i := 0) rfl rfl (se_lst (sa_cons rfl (se_tup (sa_cons rfl se_str (sa_cons rfl (se_lst (sa_cons rfl (se_tup (sa_cons rfl se_str (sa_cons rfl (se_lst sa_nil) sa_nil))) (sa_cons rfl (se_tup (sa_cons rfl se_str (sa_cons rfl (se_lst sa_nil) sa_nil))) sa_nil))) sa_nil))) (sa_cons rfl (se_tup (sa_cons rfl se_str (sa_cons rfl (se_lst (sa_cons rfl (se_tup (sa_cons rfl se_str (sa_cons rfl (se_lst sa_nil) sa_nil))) (sa_cons rfl (se_tup (sa_cons rfl se_str (sa_cons rfl (se_lst (sa_cons rfl se_str sa_nil)) sa_nil))) sa_nil))) sa_nil))) sa_nil))) rfl)
  (sss_cons (ss_ret (se_add (se_var (i := 0) rfl rfl rfl rfl) (se_lst (sa_cons rfl (se_tup (sa_cons rfl se_str (sa_cons rfl (se_lst (sa_cons rfl (se_tup (sa_cons rfl se_str (sa_cons rfl (se_lst sa_nil) sa_nil))) (sa_cons rfl (se_tup (sa_cons rfl se_str (sa_cons rfl (se_lst (sa_cons rfl se_str (sa_cons rfl se_str sa_nil))) sa_nil))) sa_nil))) sa_nil))) (sa_cons rfl (se_tup (sa_cons rfl se_str (sa_cons rfl (se_lst sa_nil) sa_nil))) sa_nil)))))
  sss_nil))
theorem ok__law_kinds (Y : Fx T) : FnF T 1 (He.fAd T.K ("_law_kinds", none)) 0 f__law_kinds [] := let ⟨_, F⟩ := Y.f__law_kinds; FnF.of F sc__law_kinds (F.bindsN (ps := []) (fun _ _ _ _ _ _ us hl => match us, hl with | [], _ => rfl)) (s__law_kinds Y) (Nat.le_refl _)
def n__law_makers : List Str := ["kind"]
theorem sc__law_makers : L2.FnScope n__law_makers ["kind"] (defScope t__law_makers) := ⟨rfl, rfl, rfl, by decide +kernel, rfl, by decide +kernel, by decide +kernel⟩
theorem s__law_makers (Y : Fx T) : SSs T 1 n__law_makers (defScope t__law_makers) (defBody t__law_makers) d__law_makers :=
  (sss_cons (ss_ret (se_ixP (se_dict rfl rfl Y.g_dict (sa_cons rfl (se_call0 ((ok__law_kinds Y).mono (by decide)) rfl Y.m__law_kinds rfl) sa_nil) rfl) (se_var (i := 0) rfl rfl rfl rfl) (fun _ _ => rfl)))
  sss_nil)
theorem ok__law_makers (Y : Fx T) : FnF T 2 (He.fAd T.K ("_law_makers", none)) 1 f__law_makers [] := let ⟨_, F⟩ := Y.f__law_makers; FnF.of F sc__law_makers (F.bindsN (ps := ["kind"]) (fun _ _ _ _ _ _ us hl => match us, hl with | [_], _ => rfl)) (s__law_makers Y) (Nat.le_refl _)
def n__law_makes : List Str := ["works", "makes", "told"]
theorem sc__law_makes : L2.FnScope n__law_makes ["works"] (defScope t__law_makes) := ⟨rfl, rfl, rfl, by decide +kernel, rfl, by decide +kernel, by decide +kernel⟩
theorem s__law_makes (Y : Fx T) : SSs T 0 n__law_makes (defScope t__law_makes) (defBody t__law_makes) d__law_makes :=
  (sss_cons (ss_set (i := 1) rfl rfl (se_lst (sa_cons rfl (se_tup (sa_cons rfl se_str (sa_cons rfl (se_lst (sa_cons rfl se_str sa_nil)) (sa_cons rfl se_str sa_nil)))) (sa_cons rfl (se_tup (sa_cons rfl se_str (sa_cons rfl (se_lst (sa_cons rfl se_str (sa_cons rfl se_str sa_nil))) (sa_cons rfl se_str sa_nil)))) sa_nil))) rfl)
  (sss_cons (ss_ret (se_add (se_var (i := 1) rfl rfl rfl rfl) (se_lc (own := [("told", 2)])  (si_seq (se_var (i := 0) rfl rfl rfl rfl)) (by rfl) (sg_name (i := 2) rfl rfl) sts_nil (se_tup (sa_cons rfl (se_ixP (se_var (i := 2) rfl rfl rfl rfl) se_int (fun _ _ => rfl)) (sa_cons rfl (se_ixP (se_var (i := 2) rfl rfl rfl rfl) se_int (fun _ _ => rfl)) (sa_cons rfl (se_ixP (se_var (i := 2) rfl rfl rfl rfl) se_int (fun _ _ => rfl)) sa_nil)))) rfl (by decide))))
  sss_nil))
theorem ok__law_makes (Y : Fx T) : FnF T 1 (He.fAd T.K ("_law_makes", none)) 1 f__law_makes [] := let ⟨_, F⟩ := Y.f__law_makes; FnF.of F sc__law_makes (F.bindsN (ps := ["works"]) (fun _ _ _ _ _ _ us hl => match us, hl with | [_], _ => rfl)) (s__law_makes Y) (Nat.le_refl _)
def n__law_atoms : List Str := ["kind", "names", "some", "name", "maker", "takes"]
theorem sc__law_atoms : L2.FnScope n__law_atoms ["kind", "names"] (defScope t__law_atoms) := ⟨rfl, rfl, rfl, by decide +kernel, rfl, by decide +kernel, by decide +kernel⟩
theorem s__law_atoms (Y : Fx T) : SSs T 2 n__law_atoms (defScope t__law_atoms) (defBody t__law_atoms) d__law_atoms :=
  (sss_cons (ss_setLc (i := 2) (own := [("name", 3)]) rfl rfl rfl rfl (si_seq (se_var (i := 1) rfl rfl rfl rfl)) (by rfl) (sg_name (i := 3) rfl rfl) (sts_one (st_eq (se_ixP (se_var (i := 3) rfl rfl rfl rfl) se_int (fun _ _ => rfl)) (se_var (i := 0) rfl rfl rfl rfl))) (se_var (i := 3) rfl rfl rfl rfl) rfl (by decide))
  (sss_cons (ss_set (i := 2) rfl rfl (se_add (se_var (i := 2) rfl rfl rfl rfl) (se_lc (own := [("maker", 4), ("takes", 5)])  (si_seq (se_call ((ok__law_makers Y).mono (by decide)) rfl Y.m__law_makers rfl (sa_cons rfl (se_var (i := 0) rfl rfl rfl rfl) sa_nil) rfl rfl)) (by rfl) (sg_tup (sgs_cons (sg_name (i := 4) rfl rfl) (sgs_cons (sg_name (i := 5) rfl rfl) sgs_nil rfl) rfl) rfl rfl) (sts_one (st_eq (se_var (i := 5) rfl rfl rfl rfl) (se_lst sa_nil))) (se_tup (sa_cons rfl se_str (sa_cons rfl (se_var (i := 4) rfl rfl rfl rfl) (sa_cons rfl (se_tup sa_nil) sa_nil)))) rfl (by decide))) rfl)
  (sss_cons (ss_if (st_eq (se_var (i := 2) rfl rfl rfl rfl) (se_lst sa_nil)) (sss_cons (ss_set (i := 2) rfl rfl (se_lst (sa_cons rfl (se_tup (sa_cons rfl se_str (sa_cons rfl se_str (sa_cons rfl (se_var (i := 0) rfl rfl rfl rfl) sa_nil)))) sa_nil)) rfl)
  sss_nil) sss_nil)
  (sss_cons (ss_ret (se_var (i := 2) rfl rfl rfl rfl))
  sss_nil))))
theorem ok__law_atoms (Y : Fx T) : FnF T 3 (He.fAd T.K ("_law_atoms", none)) 2 f__law_atoms [] := let ⟨_, F⟩ := Y.f__law_atoms; FnF.of F sc__law_atoms (F.bindsN (ps := ["kind", "names"]) (fun _ _ _ _ _ _ us hl => match us, hl with | [_, _], _ => rfl)) (s__law_atoms Y) (Nat.le_refl _)
def n__law_own : List Str := ["own", "kind", "fuel"]
theorem sc__law_own : L2.FnScope n__law_own ["own", "kind", "fuel"] (defScope t__law_own) := ⟨rfl, rfl, rfl, by decide +kernel, rfl, by decide +kernel, by decide +kernel⟩
theorem s__law_own (Y : Fx T) : SSs T 0 n__law_own (defScope t__law_own) (defBody t__law_own) d__law_own :=
  (sss_cons (ss_if (st_w (sw_or (st_is (se_var (i := 0) rfl rfl rfl rfl) se_non) (sw_or (st_ne (se_ixP (se_var (i := 0) rfl rfl rfl rfl) se_int (fun _ _ => rfl)) (se_var (i := 1) rfl rfl rfl rfl)) (sw_or (st_eq (se_ixP (se_var (i := 0) rfl rfl rfl rfl) se_int (fun _ _ => rfl)) (se_lst sa_nil)) (sw_or1 (st_lt (se_var (i := 2) rfl rfl rfl rfl) se_int)))))) (sss_cons (ss_ret (se_lst sa_nil))
  sss_nil) sss_nil)
  (sss_cons (ss_ret (se_lst (sa_cons rfl (se_slice (se_var (i := 0) rfl rfl rfl rfl) so_none (so_some se_int)) (sa_cons rfl (se_slice (se_var (i := 0) rfl rfl rfl rfl) so_none (so_some se_int)) sa_nil))))
  sss_nil))
theorem ok__law_own (Y : Fx T) : FnF T 1 (He.fAd T.K ("_law_own", none)) 3 f__law_own [] := let ⟨_, F⟩ := Y.f__law_own; FnF.of F sc__law_own (F.bindsN (ps := ["own", "kind", "fuel"]) (fun _ _ _ _ _ _ us hl => match us, hl with | [_, _, _], _ => rfl)) (s__law_own Y) (Nat.le_refl _)
def n__law_term : List Str := ["source", "kind", "names", "works", "fuel", "own", "some", "makes", "pick", "f", "takes", "gives", "parts", "k", "one", "part", "told"]
theorem sc__law_term : L2.FnScope n__law_term ["source", "kind", "names", "works", "fuel", "own"] (defScope t__law_term) := ⟨rfl, rfl, rfl, by decide +kernel, rfl, by decide +kernel, by decide +kernel⟩
theorem s__law_term (Y : Fx T) {k : Nat} (hk : 3 ≤ k) {rec : Fn} (hrec_d0 : FnF T k (He.fAd T.K ("_law_term", none)) 6 rec []) (hrec_d1 : FnF T k (He.fAd T.K ("_law_term", none)) 6 rec [.non]) : SSs T k n__law_term (defScope t__law_term) (defBody t__law_term) (d__law_term rec) :=
  (sss_cons (ss_set (i := 6) rfl rfl (se_call ((ok__law_atoms Y).mono (Nat.le_trans (by decide) hk)) rfl Y.m__law_atoms rfl (sa_cons rfl (se_var (i := 1) rfl rfl rfl rfl) (sa_cons rfl (se_var (i := 2) rfl rfl rfl rfl) sa_nil)) rfl rfl) rfl)
  (sss_cons (ss_set (i := 7) rfl rfl (se_add (se_lc (own := [("told", 16)])  (si_seq (se_call ((ok__law_makes Y).mono (Nat.le_trans (by decide) hk)) rfl Y.m__law_makes rfl (sa_cons rfl (se_var (i := 3) rfl rfl rfl rfl) sa_nil) rfl rfl)) (by rfl) (sg_name (i := 16) rfl rfl) (sts_one (st_w (sw_and (st_gt (se_var (i := 4) rfl rfl rfl rfl) se_int) (sw_and1 (st_eq (se_ixP (se_var (i := 16) rfl rfl rfl rfl) se_int (fun _ _ => rfl)) (se_var (i := 1) rfl rfl rfl rfl)))))) (se_var (i := 16) rfl rfl rfl rfl) rfl (by decide)) (se_call ((ok__law_own Y).mono (Nat.le_trans (by decide) hk)) rfl Y.m__law_own rfl (sa_cons rfl (se_var (i := 5) rfl rfl rfl rfl) (sa_cons rfl (se_var (i := 1) rfl rfl rfl rfl) (sa_cons rfl (se_var (i := 4) rfl rfl rfl rfl) sa_nil))) rfl rfl)) rfl)
  (sss_cons (ss_set (i := 8) rfl rfl (se_call ((ok__law_take Y).mono (Nat.le_trans (by decide) hk)) rfl Y.m__law_take rfl (sa_cons rfl (se_var (i := 0) rfl rfl rfl rfl) (sa_cons rfl (se_add (se_len rfl rfl Y.g_len (sa_cons rfl (se_var (i := 6) rfl rfl rfl rfl) sa_nil) rfl) (se_mul se_int (se_len rfl rfl Y.g_len (sa_cons rfl (se_var (i := 7) rfl rfl rfl rfl) sa_nil) rfl))) sa_nil)) rfl rfl) rfl)
  (sss_cons (ss_if (st_lt (se_var (i := 8) rfl rfl rfl rfl) (se_len rfl rfl Y.g_len (sa_cons rfl (se_var (i := 6) rfl rfl rfl rfl) sa_nil) rfl)) (sss_cons (ss_ret (se_ixP (se_var (i := 6) rfl rfl rfl rfl) (se_var (i := 8) rfl rfl rfl rfl) (fun _ _ => rfl)))
  sss_nil) sss_nil)
  (sss_cons (ss_unp (sg_tup (sgs_cons (sg_name (i := 9) rfl rfl) (sgs_cons (sg_name (i := 10) rfl rfl) (sgs_cons (sg_name (i := 11) rfl rfl) sgs_nil rfl) rfl) rfl) rfl rfl) (se_ixP (se_var (i := 7) rfl rfl rfl rfl) (se_div (se_sub (se_var (i := 8) rfl rfl rfl rfl) (se_len rfl rfl Y.g_len (sa_cons rfl (se_var (i := 6) rfl rfl rfl rfl) sa_nil) rfl)) se_int) (fun _ _ => rfl)) rfl rfl)
  (sss_cons (ss_set (i := 12) rfl rfl (se_lst sa_nil) rfl)
  (sss_cons (ss_for (si_enum rfl rfl Y.g_enumerate (sa_cons rfl (se_var (i := 10) rfl rfl rfl rfl) sa_nil) rfl) (sg_tup (sgs_cons (sg_name (i := 13) rfl rfl) (sgs_cons (sg_name (i := 14) rfl rfl) sgs_nil rfl) rfl) rfl rfl) (sss_cons (ss_set (i := 15) rfl rfl (se_call hrec_d0 rfl Y.m__law_term rfl (sa_cons rfl (se_var (i := 0) rfl rfl rfl rfl) (sa_cons rfl (se_var (i := 14) rfl rfl rfl rfl) (sa_cons rfl (se_var (i := 2) rfl rfl rfl rfl) (sa_cons rfl (se_var (i := 3) rfl rfl rfl rfl) (sa_cons rfl (se_sub (se_var (i := 4) rfl rfl rfl rfl) se_int) (sa_cons rfl (se_var (i := 5) rfl rfl rfl rfl) sa_nil)))))) rfl rfl) rfl)
  (sss_cons (ss_if (st_w (sw_and (st_isnot (se_var (i := 5) rfl rfl rfl rfl) se_non) (sw_and (st_eq (se_var (i := 9) rfl rfl rfl rfl) (se_ixP (se_var (i := 5) rfl rfl rfl rfl) se_int (fun _ _ => rfl))) (sw_and1 (st_eq (se_var (i := 13) rfl rfl rfl rfl) (se_ixP (se_var (i := 5) rfl rfl rfl rfl) se_int (fun _ _ => rfl))))))) (sss_cons (ss_set (i := 15) rfl rfl (se_ixP (se_ixP (se_var (i := 5) rfl rfl rfl rfl) se_int (fun _ _ => rfl)) (se_call ((ok__law_take Y).mono (Nat.le_trans (by decide) hk)) rfl Y.m__law_take rfl (sa_cons rfl (se_var (i := 0) rfl rfl rfl rfl) (sa_cons rfl (se_len rfl rfl Y.g_len (sa_cons rfl (se_ixP (se_var (i := 5) rfl rfl rfl rfl) se_int (fun _ _ => rfl)) sa_nil) rfl) sa_nil)) rfl rfl) (fun _ _ => rfl)) rfl)
  sss_nil) sss_nil)
  (sss_cons (ss_expr (se_append (se_var (i := 12) rfl rfl rfl rfl) (sa_cons rfl (se_var (i := 15) rfl rfl rfl rfl) sa_nil) rfl rfl rfl) rfl)
  sss_nil))) rfl)
  (sss_cons (ss_ret (se_tup (sa_cons rfl se_str (sa_cons rfl (se_var (i := 9) rfl rfl rfl rfl) (sa_cons rfl (se_tuple rfl rfl Y.g_tuple (sa_cons rfl (se_var (i := 12) rfl rfl rfl rfl) sa_nil) rfl) sa_nil)))))
  sss_nil))))))))
theorem ok__law_term_aux (Y : Fx T) : ∀ n, FnF T (4 + n) (He.fAd T.K ("_law_term", none)) 6 (f__law_term n) [] ∧ FnF T (4 + n) (He.fAd T.K ("_law_term", none)) 6 (f__law_term n) [.non]
  | 0 => let ⟨_, F⟩ := Y.f__law_term; FnF.of2 F sc__law_term (F.binds1 (ps := ["source", "kind", "names", "works", "fuel", "own"]) 6 1 (by simp) rfl (fun _ _ _ _ _ _ _ us its hl hi => match us, its, hl, hi with | [_, _, _, _, _, _], [_], _, _ => ⟨_, rfl, rfl⟩)) (F.binds1 (ps := ["source", "kind", "names", "works", "fuel", "own"]) 5 0 (by simp) rfl (fun _ _ _ _ _ _ _ us its hl hi => match us, its, hl, hi with | [_, _, _, _, _], [_], _, _ => ⟨_, rfl, rfl⟩)) (sss_bad (k := 3)) (Nat.le_refl _)
  | n + 1 => let ⟨_, F⟩ := Y.f__law_term; FnF.of2 F sc__law_term (F.binds1 (ps := ["source", "kind", "names", "works", "fuel", "own"]) 6 1 (by simp) rfl (fun _ _ _ _ _ _ _ us its hl hi => match us, its, hl, hi with | [_, _, _, _, _, _], [_], _, _ => ⟨_, rfl, rfl⟩)) (F.binds1 (ps := ["source", "kind", "names", "works", "fuel", "own"]) 5 0 (by simp) rfl (fun _ _ _ _ _ _ _ us its hl hi => match us, its, hl, hi with | [_, _, _, _, _], [_], _, _ => ⟨_, rfl, rfl⟩)) (s__law_term Y (k := 4 + n) (by omega) ((ok__law_term_aux Y n).1.mono (by omega)) ((ok__law_term_aux Y n).2.mono (by omega))) (by omega)
theorem ok__law_term_d0 (Y : Fx T) (n : Nat) : FnF T (4 + n) (He.fAd T.K ("_law_term", none)) 6 (f__law_term n) [] := (ok__law_term_aux Y n).1
theorem ok__law_term_d1 (Y : Fx T) (n : Nat) : FnF T (4 + n) (He.fAd T.K ("_law_term", none)) 6 (f__law_term n) [.non] := (ok__law_term_aux Y n).2
def n__law_work : List Str := ["source", "f", "works", "takes", "gives", "sort", "names", "some", "at", "rights", "maker", "needs", "behind", "own", "k", "told", "name"]
theorem sc__law_work : L2.FnScope n__law_work ["source", "f", "works"] (defScope t__law_work) := ⟨rfl, rfl, rfl, by decide +kernel, rfl, by decide +kernel, by decide +kernel⟩
theorem s__law_work (Y : Fx T) : SSs T 10 n__law_work (defScope t__law_work) (defBody t__law_work) d__law_work :=
  (sss_cons (ss_setC (i := 3) rfl rfl (se_lc (own := [("k", 14)])  (si_rng1 rfl rfl Y.g_range (sa_cons rfl (se_add se_int (se_call ((ok__law_take Y).mono (by decide)) rfl Y.m__law_take rfl (sa_cons rfl (se_var (i := 0) rfl rfl rfl rfl) (sa_cons rfl se_int sa_nil)) rfl rfl)) sa_nil) rfl) (by rfl) (sg_name (i := 14) rfl rfl) sts_nil (se_ixP (se_lst (sa_cons rfl se_str (sa_cons rfl se_str (sa_cons rfl se_str sa_nil)))) (se_call ((ok__law_take Y).mono (by decide)) rfl Y.m__law_take rfl (sa_cons rfl (se_var (i := 0) rfl rfl rfl rfl) (sa_cons rfl se_int sa_nil)) rfl rfl) (fun _ _ => rfl)) rfl (by decide)))
  (sss_cons (ss_set (i := 4) rfl rfl (se_ixP (se_lst (sa_cons rfl se_str (sa_cons rfl se_str (sa_cons rfl se_str sa_nil)))) (se_call ((ok__law_take Y).mono (by decide)) rfl Y.m__law_take rfl (sa_cons rfl (se_var (i := 0) rfl rfl rfl rfl) (sa_cons rfl se_int sa_nil)) rfl rfl) (fun _ _ => rfl)) rfl)
  (sss_cons (ss_set (i := 5) rfl rfl (se_call ((ok__law_take Y).mono (by decide)) rfl Y.m__law_take rfl (sa_cons rfl (se_var (i := 0) rfl rfl rfl rfl) (sa_cons rfl se_int sa_nil)) rfl rfl) rfl)
  (sss_cons (ss_setLc (i := 6) (own := [("k", 14)]) rfl rfl rfl rfl (si_rng1 rfl rfl Y.g_range (sa_cons rfl (se_len rfl rfl Y.g_len (sa_cons rfl (se_var (i := 3) rfl rfl rfl rfl) sa_nil) rfl) sa_nil) rfl) (by rfl) (sg_name (i := 14) rfl rfl) sts_nil (se_tup (sa_cons rfl se_str (sa_cons rfl (se_add se_str (se_ixP se_str (se_var (i := 14) rfl rfl rfl rfl) (fun _ _ => rfl))) (sa_cons rfl (se_ixP (se_var (i := 3) rfl rfl rfl rfl) (se_var (i := 14) rfl rfl rfl rfl) (fun _ _ => rfl)) sa_nil)))) rfl (by decide))
  (sss_cons (ss_setLc (i := 7) (own := [("told", 15)]) rfl rfl rfl rfl (si_seq (se_var (i := 2) rfl rfl rfl rfl)) (by rfl) (sg_name (i := 15) rfl rfl) (sts_one (st_ne (se_ixP (se_var (i := 15) rfl rfl rfl rfl) se_int (fun _ _ => rfl)) (se_lst sa_nil))) (se_var (i := 15) rfl rfl rfl rfl) rfl (by decide))
  (sss_cons (ss_if (st_eq (se_var (i := 5) rfl rfl rfl rfl) se_int) (sss_cons (ss_ret (se_tup (sa_cons rfl (se_var (i := 1) rfl rfl rfl rfl) (sa_cons rfl (se_var (i := 3) rfl rfl rfl rfl) (sa_cons rfl (se_var (i := 4) rfl rfl rfl rfl) (sa_cons rfl se_non (sa_cons rfl (se_lst sa_nil) sa_nil)))))))
  sss_nil) sss_nil)
  (sss_cons (ss_if (st_eq (se_var (i := 5) rfl rfl rfl rfl) se_int) (sss_cons (ss_ret (se_tup (sa_cons rfl (se_var (i := 1) rfl rfl rfl rfl) (sa_cons rfl (se_var (i := 3) rfl rfl rfl rfl) (sa_cons rfl (se_var (i := 4) rfl rfl rfl rfl) (sa_cons rfl se_non (sa_cons rfl (se_lst (sa_cons rfl (se_call ((ok__law_term_d1 Y 6).mono (by decide)) rfl Y.m__law_term rfl (sa_cons rfl (se_var (i := 0) rfl rfl rfl rfl) (sa_cons rfl (se_var (i := 4) rfl rfl rfl rfl) (sa_cons rfl (se_var (i := 6) rfl rfl rfl rfl) (sa_cons rfl (se_var (i := 7) rfl rfl rfl rfl) (sa_cons rfl se_int sa_nil))))) rfl rfl) sa_nil)) sa_nil)))))))
  sss_nil) sss_nil)
  (sss_cons (ss_set (i := 8) rfl rfl (se_call ((ok__law_take Y).mono (by decide)) rfl Y.m__law_take rfl (sa_cons rfl (se_var (i := 0) rfl rfl rfl rfl) (sa_cons rfl (se_len rfl rfl Y.g_len (sa_cons rfl (se_var (i := 3) rfl rfl rfl rfl) sa_nil) rfl) sa_nil)) rfl rfl) rfl)
  (sss_cons (ss_set (i := 9) rfl rfl (se_lst sa_nil) rfl)
  (sss_cons (ss_for (si_seq (se_call ((ok__law_makers Y).mono (by decide)) rfl Y.m__law_makers rfl (sa_cons rfl (se_ixP (se_var (i := 3) rfl rfl rfl rfl) (se_var (i := 8) rfl rfl rfl rfl) (fun _ _ => rfl)) sa_nil) rfl rfl)) (sg_tup (sgs_cons (sg_name (i := 10) rfl rfl) (sgs_cons (sg_name (i := 11) rfl rfl) sgs_nil rfl) rfl) rfl rfl) (sss_cons (ss_setLc (i := 12) (own := [("k", 14)]) rfl rfl rfl rfl (si_rng1 rfl rfl Y.g_range (sa_cons rfl (se_len rfl rfl Y.g_len (sa_cons rfl (se_var (i := 11) rfl rfl rfl rfl) sa_nil) rfl) sa_nil) rfl) (by rfl) (sg_name (i := 14) rfl rfl) sts_nil (se_tup (sa_cons rfl se_str (sa_cons rfl (se_add se_str (se_ixP se_str (se_var (i := 14) rfl rfl rfl rfl) (fun _ _ => rfl))) (sa_cons rfl (se_ixP (se_var (i := 11) rfl rfl rfl rfl) (se_var (i := 14) rfl rfl rfl rfl) (fun _ _ => rfl)) sa_nil)))) rfl (by decide))
  (sss_cons (ss_set (i := 13) rfl rfl (se_tup (sa_cons rfl (se_var (i := 1) rfl rfl rfl rfl) (sa_cons rfl (se_var (i := 3) rfl rfl rfl rfl) (sa_cons rfl (se_var (i := 4) rfl rfl rfl rfl) (sa_cons rfl (se_var (i := 8) rfl rfl rfl rfl) (sa_cons rfl (se_lc (own := [("name", 16)])  (si_seq (se_var (i := 12) rfl rfl rfl rfl)) (by rfl) (sg_name (i := 16) rfl rfl) (sts_one (st_eq (se_ixP (se_var (i := 16) rfl rfl rfl rfl) se_int (fun _ _ => rfl)) (se_ixP (se_var (i := 3) rfl rfl rfl rfl) (se_var (i := 8) rfl rfl rfl rfl) (fun _ _ => rfl)))) (se_var (i := 16) rfl rfl rfl rfl) rfl (by decide)) sa_nil)))))) rfl)
  (sss_cons (ss_expr (se_append (se_var (i := 9) rfl rfl rfl rfl) (sa_cons rfl (se_call ((ok__law_term_d0 Y 6).mono (by decide)) rfl Y.m__law_term rfl (sa_cons rfl (se_var (i := 0) rfl rfl rfl rfl) (sa_cons rfl (se_var (i := 4) rfl rfl rfl rfl) (sa_cons rfl (se_add (se_add (se_slice (se_var (i := 6) rfl rfl rfl rfl) so_none (so_some (se_var (i := 8) rfl rfl rfl rfl))) (se_slice (se_var (i := 6) rfl rfl rfl rfl) (so_some (se_add (se_var (i := 8) rfl rfl rfl rfl) se_int)) so_none)) (se_var (i := 12) rfl rfl rfl rfl)) (sa_cons rfl (se_var (i := 7) rfl rfl rfl rfl) (sa_cons rfl se_int (sa_cons rfl (se_var (i := 13) rfl rfl rfl rfl) sa_nil)))))) rfl rfl) sa_nil) rfl rfl rfl) rfl)
  sss_nil))) rfl)
  (sss_cons (ss_ret (se_tup (sa_cons rfl (se_var (i := 1) rfl rfl rfl rfl) (sa_cons rfl (se_var (i := 3) rfl rfl rfl rfl) (sa_cons rfl (se_var (i := 4) rfl rfl rfl rfl) (sa_cons rfl (se_var (i := 8) rfl rfl rfl rfl) (sa_cons rfl (se_var (i := 9) rfl rfl rfl rfl) sa_nil)))))))
  sss_nil)))))))))))
theorem ok__law_work (Y : Fx T) : FnF T 11 (He.fAd T.K ("_law_work", none)) 3 f__law_work [] := let ⟨_, F⟩ := Y.f__law_work; FnF.of F sc__law_work (F.bindsN (ps := ["source", "f", "works"]) (fun _ _ _ _ _ _ us hl => match us, hl with | [_, _, _], _ => rfl)) (s__law_work Y) (Nat.le_refl _)
def n__law_works : List Str := ["source", "works", "f"]
theorem sc__law_works : L2.FnScope n__law_works ["source"] (defScope t__law_works) := ⟨rfl, rfl, rfl, by decide +kernel, rfl, by decide +kernel, by decide +kernel⟩
theorem s__law_works (Y : Fx T) : SSs T 11 n__law_works (defScope t__law_works) (defBody t__law_works) d__law_works :=
  (sss_cons (ss_set (i := 1) rfl rfl (se_lst (sa_cons rfl (se_tup (sa_cons rfl se_str (sa_cons rfl (se_lst (sa_cons rfl se_str sa_nil)) (sa_cons rfl se_str (sa_cons rfl se_non (sa_cons rfl (se_lst sa_nil) sa_nil)))))) (sa_cons rfl (se_tup (sa_cons rfl se_str (sa_cons rfl (se_lst (sa_cons rfl se_str sa_nil)) (sa_cons rfl se_str (sa_cons rfl se_non (sa_cons rfl (se_lst sa_nil) sa_nil)))))) sa_nil))) rfl)
  (sss_cons (ss_for (si_seq (se_slice (se_lst (sa_cons rfl se_str (sa_cons rfl se_str (sa_cons rfl se_str (sa_cons rfl se_str sa_nil))))) so_none (so_some (se_add se_int (se_call ((ok__law_take Y).mono (by decide)) rfl Y.m__law_take rfl (sa_cons rfl (se_var (i := 0) rfl rfl rfl rfl) (sa_cons rfl se_int sa_nil)) rfl rfl))))) (sg_name (i := 2) rfl rfl) (sss_cons (ss_expr (se_append (se_var (i := 1) rfl rfl rfl rfl) (sa_cons rfl (se_call ((ok__law_work Y).mono (by decide)) rfl Y.m__law_work rfl (sa_cons rfl (se_var (i := 0) rfl rfl rfl rfl) (sa_cons rfl (se_var (i := 2) rfl rfl rfl rfl) (sa_cons rfl (se_var (i := 1) rfl rfl rfl rfl) sa_nil))) rfl rfl) sa_nil) rfl rfl rfl) rfl)
  sss_nil) rfl)
  (sss_cons (ss_ret (se_var (i := 1) rfl rfl rfl rfl))
  sss_nil)))
theorem ok__law_works (Y : Fx T) : FnF T 12 (He.fAd T.K ("_law_works", none)) 1 f__law_works [] := let ⟨_, F⟩ := Y.f__law_works; FnF.of F sc__law_works (F.bindsN (ps := ["source"]) (fun _ _ _ _ _ _ us hl => match us, hl with | [_], _ => rfl)) (s__law_works Y) (Nat.le_refl _)
def n__law_ground : List Str := ["works", "f", "takes", "gives", "at", "rights"]
theorem sc__law_ground : L2.FnScope n__law_ground ["works"] (defScope t__law_ground) := ⟨rfl, rfl, rfl, by decide +kernel, rfl, by decide +kernel, by decide +kernel⟩
theorem s__law_ground (Y : Fx T) : SSs T 19 n__law_ground (defScope t__law_ground) (defBody t__law_ground) d__law_ground :=
  (sss_cons (ss_ret (se_make Y.mk_Ground (ok_Ground___init__ Y) (by decide) rfl Y.m_Ground rfl (sa_cons rfl (se_call0 ((ok__law_kinds Y).mono (by decide)) rfl Y.m__law_kinds rfl) (sa_cons rfl (se_lc (own := [("f", 1), ("takes", 2), ("gives", 3), ("at", 4), ("rights", 5)])  (si_seq (se_var (i := 0) rfl rfl rfl rfl)) (by rfl) (sg_tup (sgs_cons (sg_name (i := 1) rfl rfl) (sgs_cons (sg_name (i := 2) rfl rfl) (sgs_cons (sg_name (i := 3) rfl rfl) (sgs_cons (sg_name (i := 4) rfl rfl) (sgs_cons (sg_name (i := 5) rfl rfl) sgs_nil rfl) rfl) rfl) rfl) rfl) rfl rfl) sts_nil (se_tup (sa_cons rfl (se_var (i := 1) rfl rfl rfl rfl) (sa_cons rfl (se_list rfl rfl Y.g_list (sa_cons rfl (se_var (i := 2) rfl rfl rfl rfl) sa_nil) rfl) (sa_cons rfl (se_var (i := 3) rfl rfl rfl rfl) (sa_cons rfl (se_var (i := 4) rfl rfl rfl rfl) (sa_cons rfl (se_list rfl rfl Y.g_list (sa_cons rfl (se_var (i := 5) rfl rfl rfl rfl) sa_nil) rfl) sa_nil)))))) rfl (by decide)) sa_nil)) rfl rfl))
  sss_nil)
theorem ok__law_ground (Y : Fx T) : FnF T 20 (He.fAd T.K ("_law_ground", none)) 1 f__law_ground [] := let ⟨_, F⟩ := Y.f__law_ground; FnF.of F sc__law_ground (F.bindsN (ps := ["works"]) (fun _ _ _ _ _ _ us hl => match us, hl with | [_], _ => rfl)) (s__law_ground Y) (Nat.le_refl _)
def n__law_names : List Str := ["some"]
theorem sc__law_names : L2.FnScope n__law_names [] (defScope t__law_names) := ⟨rfl, rfl, rfl, by decide +kernel, rfl, by decide +kernel, by decide +kernel⟩
theorem s__law_names (Y : Fx T) : SSs T 0 n__law_names (defScope t__law_names) (defBody t__law_names) d__law_names :=
  (sss_cons (ss_set (i := 0) rfl rfl (se_lst (sa_cons rfl (se_tup (sa_cons rfl se_str (sa_cons rfl se_str (sa_cons rfl se_str sa_nil)))) (sa_cons rfl (se_tup (sa_cons rfl se_str (sa_cons rfl se_str (sa_cons rfl se_str sa_nil)))) (sa_cons rfl (se_tup (sa_cons rfl se_str (sa_cons rfl se_str (sa_cons rfl se_str sa_nil)))) (sa_cons rfl (se_tup (sa_cons rfl se_str (sa_cons rfl se_str (sa_cons rfl se_str sa_nil)))) sa_nil))))) rfl)
  (sss_cons (ss_ret (se_add (se_var (i := 0) rfl rfl rfl rfl) (se_lst (sa_cons rfl (se_tup (sa_cons rfl se_str (sa_cons rfl se_str (sa_cons rfl se_str sa_nil)))) sa_nil))))
  sss_nil))
theorem ok__law_names (Y : Fx T) : FnF T 1 (He.fAd T.K ("_law_names", none)) 0 f__law_names [] := let ⟨_, F⟩ := Y.f__law_names; FnF.of F sc__law_names (F.bindsN (ps := []) (fun _ _ _ _ _ _ us hl => match us, hl with | [], _ => rfl)) (s__law_names Y) (Nat.le_refl _)
def n__law_slots : List Str := ["some"]
theorem sc__law_slots : L2.FnScope n__law_slots [] (defScope t__law_slots) := ⟨rfl, rfl, rfl, by decide +kernel, rfl, by decide +kernel, by decide +kernel⟩
theorem s__law_slots (Y : Fx T) : SSs T 0 n__law_slots (defScope t__law_slots) (defBody t__law_slots) d__law_slots :=
  (sss_cons (ss_set (i := 0) rfl rfl (se_lst (sa_cons rfl (se_tup (sa_cons rfl se_str (sa_cons rfl se_str (sa_cons rfl se_str sa_nil)))) (sa_cons rfl (se_tup (sa_cons rfl se_str (sa_cons rfl se_str (sa_cons rfl se_str sa_nil)))) (sa_cons rfl (se_tup (sa_cons rfl se_str (sa_cons rfl se_str (sa_cons rfl se_str sa_nil)))) (sa_cons rfl (se_tup (sa_cons rfl se_str (sa_cons rfl se_str (sa_cons rfl se_str sa_nil)))) sa_nil))))) rfl)
  (sss_cons (ss_ret (se_add (se_var (i := 0) rfl rfl rfl rfl) (se_lst (sa_cons rfl (se_tup (sa_cons rfl se_str (sa_cons rfl se_str (sa_cons rfl se_str sa_nil)))) sa_nil))))
  sss_nil))
theorem ok__law_slots (Y : Fx T) : FnF T 1 (He.fAd T.K ("_law_slots", none)) 0 f__law_slots [] := let ⟨_, F⟩ := Y.f__law_slots; FnF.of F sc__law_slots (F.bindsN (ps := []) (fun _ _ _ _ _ _ us hl => match us, hl with | [], _ => rfl)) (s__law_slots Y) (Nat.le_refl _)
def n__law_bound : List Str := ["term", "names", "part"]
theorem sc__law_bound : L2.FnScope n__law_bound ["term", "names"] (defScope t__law_bound) := ⟨rfl, rfl, rfl, by decide +kernel, rfl, by decide +kernel, by decide +kernel⟩
theorem s__law_bound (Y : Fx T) {k : Nat} (hk : 0 ≤ k) {rec : Fn} (hrec : FnF T k (He.fAd T.K ("_law_bound", none)) 2 rec []) : SSs T k n__law_bound (defScope t__law_bound) (defBody t__law_bound) (d__law_bound rec) :=
  (sss_cons (ss_if (st_in (se_var (i := 0) rfl rfl rfl rfl) (se_var (i := 1) rfl rfl rfl rfl) rfl) (sss_cons (ss_ret (se_tup (sa_cons rfl se_str (sa_cons rfl (se_index (se_var (i := 1) rfl rfl rfl rfl) (sa_cons rfl (se_var (i := 0) rfl rfl rfl rfl) sa_nil) rfl rfl rfl) sa_nil))))
  sss_nil) sss_nil)
  (sss_cons (ss_if (st_ne (se_ixP (se_var (i := 0) rfl rfl rfl rfl) se_int (fun _ _ => rfl)) se_str) (sss_cons (ss_ret (se_var (i := 0) rfl rfl rfl rfl))
  sss_nil) sss_nil)
  (sss_cons (ss_ret (se_tup (sa_cons rfl se_str (sa_cons rfl (se_ixP (se_var (i := 0) rfl rfl rfl rfl) se_int (fun _ _ => rfl)) (sa_cons rfl (se_tuple rfl rfl Y.g_tuple (sa_cons rfl (se_lc (own := [("part", 2)])  (si_seq (se_ixP (se_var (i := 0) rfl rfl rfl rfl) se_int (fun _ _ => rfl))) (by rfl) (sg_name (i := 2) rfl rfl) sts_nil (se_call hrec rfl Y.m__law_bound rfl (sa_cons rfl (se_var (i := 2) rfl rfl rfl rfl) (sa_cons rfl (se_var (i := 1) rfl rfl rfl rfl) sa_nil)) rfl rfl) rfl (by decide)) sa_nil) rfl) sa_nil)))))
  sss_nil)))
theorem ok__law_bound (Y : Fx T) : ∀ n, FnF T (1 + n) (He.fAd T.K ("_law_bound", none)) 2 (f__law_bound n) []
  | 0 => let ⟨_, F⟩ := Y.f__law_bound; FnF.of F sc__law_bound (F.bindsN (ps := ["term", "names"]) (fun _ _ _ _ _ _ us hl => match us, hl with | [_, _], _ => rfl)) (sss_bad (k := 0)) (Nat.le_refl _)
  | n + 1 => let ⟨_, F⟩ := Y.f__law_bound; FnF.of F sc__law_bound (F.bindsN (ps := ["term", "names"]) (fun _ _ _ _ _ _ us hl => match us, hl with | [_, _], _ => rfl)) (s__law_bound Y (k := 1 + n) (by omega) (ok__law_bound Y n |>.mono (by omega))) (by omega)
def n__law_put : List Str := ["term", "parts", "part"]
theorem sc__law_put : L2.FnScope n__law_put ["term", "parts"] (defScope t__law_put) := ⟨rfl, rfl, rfl, by decide +kernel, rfl, by decide +kernel, by decide +kernel⟩
theorem s__law_put (Y : Fx T) {k : Nat} (hk : 0 ≤ k) {rec : Fn} (hrec : FnF T k (He.fAd T.K ("_law_put", none)) 2 rec []) : SSs T k n__law_put (defScope t__law_put) (defBody t__law_put) (d__law_put rec) :=
  (sss_cons (ss_if (st_eq (se_ixP (se_var (i := 0) rfl rfl rfl rfl) se_int (fun _ _ => rfl)) se_str) (sss_cons (ss_ret (se_ixP (se_var (i := 1) rfl rfl rfl rfl) (se_ixP (se_var (i := 0) rfl rfl rfl rfl) se_int (fun _ _ => rfl)) (fun _ _ => rfl)))
  sss_nil) sss_nil)
  (sss_cons (ss_if (st_eq (se_ixP (se_var (i := 0) rfl rfl rfl rfl) se_int (fun _ _ => rfl)) se_str) (sss_cons (ss_ret (se_var (i := 0) rfl rfl rfl rfl))
  sss_nil) sss_nil)
  (sss_cons (ss_ret (se_tup (sa_cons rfl se_str (sa_cons rfl (se_ixP (se_var (i := 0) rfl rfl rfl rfl) se_int (fun _ _ => rfl)) (sa_cons rfl (se_tuple rfl rfl Y.g_tuple (sa_cons rfl (se_lc (own := [("part", 2)])  (si_seq (se_ixP (se_var (i := 0) rfl rfl rfl rfl) se_int (fun _ _ => rfl))) (by rfl) (sg_name (i := 2) rfl rfl) sts_nil (se_call hrec rfl Y.m__law_put rfl (sa_cons rfl (se_var (i := 2) rfl rfl rfl rfl) (sa_cons rfl (se_var (i := 1) rfl rfl rfl rfl) sa_nil)) rfl rfl) rfl (by decide)) sa_nil) rfl) sa_nil)))))
  sss_nil)))
theorem ok__law_put (Y : Fx T) : ∀ n, FnF T (1 + n) (He.fAd T.K ("_law_put", none)) 2 (f__law_put n) []
  | 0 => let ⟨_, F⟩ := Y.f__law_put; FnF.of F sc__law_put (F.bindsN (ps := ["term", "parts"]) (fun _ _ _ _ _ _ us hl => match us, hl with | [_, _], _ => rfl)) (sss_bad (k := 0)) (Nat.le_refl _)
  | n + 1 => let ⟨_, F⟩ := Y.f__law_put; FnF.of F sc__law_put (F.bindsN (ps := ["term", "parts"]) (fun _ _ _ _ _ _ us hl => match us, hl with | [_, _], _ => rfl)) (s__law_put Y (k := 1 + n) (by omega) (ok__law_put Y n |>.mono (by omega))) (by omega)
def n__law_all_parts : List Str := ["term", "found", "part"]
theorem sc__law_all_parts : L2.FnScope n__law_all_parts ["term"] (defScope t__law_all_parts) := ⟨rfl, rfl, rfl, by decide +kernel, rfl, by decide +kernel, by decide +kernel⟩
theorem s__law_all_parts (Y : Fx T) {k : Nat} (hk : 0 ≤ k) {rec : Fn} (hrec : FnF T k (He.fAd T.K ("_law_all_parts", none)) 1 rec []) : SSs T k n__law_all_parts (defScope t__law_all_parts) (defBody t__law_all_parts) (d__law_all_parts rec) :=
  (sss_cons (ss_set (i := 1) rfl rfl (se_lst (sa_cons rfl (se_var (i := 0) rfl rfl rfl rfl) sa_nil)) rfl)
  (sss_cons (ss_if (st_eq (se_ixP (se_var (i := 0) rfl rfl rfl rfl) se_int (fun _ _ => rfl)) se_str) (sss_cons (ss_for (si_seq (se_ixP (se_var (i := 0) rfl rfl rfl rfl) se_int (fun _ _ => rfl))) (sg_name (i := 2) rfl rfl) (sss_cons (ss_set (i := 1) rfl rfl (se_add (se_var (i := 1) rfl rfl rfl rfl) (se_call hrec rfl Y.m__law_all_parts rfl (sa_cons rfl (se_var (i := 2) rfl rfl rfl rfl) sa_nil) rfl rfl)) rfl)
  sss_nil) rfl)
  sss_nil) sss_nil)
  (sss_cons (ss_ret (se_var (i := 1) rfl rfl rfl rfl))
  sss_nil)))
theorem ok__law_all_parts (Y : Fx T) : ∀ n, FnF T (1 + n) (He.fAd T.K ("_law_all_parts", none)) 1 (f__law_all_parts n) []
  | 0 => let ⟨_, F⟩ := Y.f__law_all_parts; FnF.of F sc__law_all_parts (F.bindsN (ps := ["term"]) (fun _ _ _ _ _ _ us hl => match us, hl with | [_], _ => rfl)) (sss_bad (k := 0)) (Nat.le_refl _)
  | n + 1 => let ⟨_, F⟩ := Y.f__law_all_parts; FnF.of F sc__law_all_parts (F.bindsN (ps := ["term"]) (fun _ _ _ _ _ _ us hl => match us, hl with | [_], _ => rfl)) (s__law_all_parts Y (k := 1 + n) (by omega) (ok__law_all_parts Y n |>.mono (by omega))) (by omega)
def n__law_left : List Str := ["told", "maker", "names", "behind", "k"]
theorem sc__law_left : L2.FnScope n__law_left ["told", "maker"] (defScope t__law_left) := ⟨rfl, rfl, rfl, by decide +kernel, rfl, by decide +kernel, by decide +kernel⟩
theorem s__law_left (Y : Fx T) : SSs T 0 n__law_left (defScope t__law_left) (defBody t__law_left) d__law_left :=
  (sss_cons (ss_setLc (i := 2) (own := [("k", 4)]) rfl rfl rfl rfl (si_rng1 rfl rfl Y.g_range (sa_cons rfl (se_len rfl rfl Y.g_len (sa_cons rfl (se_ixP (se_var (i := 0) rfl rfl rfl rfl) se_int (fun _ _ => rfl)) sa_nil) rfl) sa_nil) rfl) (by rfl) (sg_name (i := 4) rfl rfl) sts_nil (se_tup (sa_cons rfl se_str (sa_cons rfl (se_add se_str (se_ixP se_str (se_var (i := 4) rfl rfl rfl rfl) (fun _ _ => rfl))) (sa_cons rfl (se_ixP (se_ixP (se_var (i := 0) rfl rfl rfl rfl) se_int (fun _ _ => rfl)) (se_var (i := 4) rfl rfl rfl rfl) (fun _ _ => rfl)) sa_nil)))) rfl (by decide))
  (sss_cons (ss_if (st_isnot (se_var (i := 1) rfl rfl rfl rfl) se_non) (sss_cons (ss_setLc (i := 3) (own := [("k", 4)]) rfl rfl rfl rfl (si_rng1 rfl rfl Y.g_range (sa_cons rfl (se_len rfl rfl Y.g_len (sa_cons rfl (se_ixP (se_var (i := 1) rfl rfl rfl rfl) se_int (fun _ _ => rfl)) sa_nil) rfl) sa_nil) rfl) (by rfl) (sg_name (i := 4) rfl rfl) sts_nil (se_tup (sa_cons rfl se_str (sa_cons rfl (se_add se_str (se_ixP se_str (se_var (i := 4) rfl rfl rfl rfl) (fun _ _ => rfl))) (sa_cons rfl (se_ixP (se_ixP (se_var (i := 1) rfl rfl rfl rfl) se_int (fun _ _ => rfl)) (se_var (i := 4) rfl rfl rfl rfl) (fun _ _ => rfl)) sa_nil)))) rfl (by decide))
  (sss_cons (ss_lset (se_tup (sa_cons rfl se_str (sa_cons rfl (se_ixP (se_var (i := 1) rfl rfl rfl rfl) se_int (fun _ _ => rfl)) (sa_cons rfl (se_tuple rfl rfl Y.g_tuple (sa_cons rfl (se_var (i := 3) rfl rfl rfl rfl) sa_nil) rfl) sa_nil)))) (se_var (i := 2) rfl rfl rfl rfl) (se_ixP (se_var (i := 0) rfl rfl rfl rfl) se_int (fun _ _ => rfl)) rfl (fun _ _ => rfl) (fun _ => rfl) (fun _ => rfl))
  sss_nil)) sss_nil)
  (sss_cons (ss_ret (se_tup (sa_cons rfl se_str (sa_cons rfl (se_ixP (se_var (i := 0) rfl rfl rfl rfl) se_int (fun _ _ => rfl)) (sa_cons rfl (se_tuple rfl rfl Y.g_tuple (sa_cons rfl (se_var (i := 2) rfl rfl rfl rfl) sa_nil) rfl) sa_nil)))))
  sss_nil)))
theorem ok__law_left (Y : Fx T) : FnF T 1 (He.fAd T.K ("_law_left", none)) 2 f__law_left [] := let ⟨_, F⟩ := Y.f__law_left; FnF.of F sc__law_left (F.bindsN (ps := ["told", "maker"]) (fun _ _ _ _ _ _ us hl => match us, hl with | [_, _], _ => rfl)) (s__law_left Y) (Nat.le_refl _)
def n__law_rule : List Str := ["left", "right", "names", "part", "name"]
theorem sc__law_rule : L2.FnScope n__law_rule ["left", "right"] (defScope t__law_rule) := ⟨rfl, rfl, rfl, by decide +kernel, rfl, by decide +kernel, by decide +kernel⟩
theorem s__law_rule (Y : Fx T) : SSs T 13 n__law_rule (defScope t__law_rule) (defBody t__law_rule) d__law_rule :=
  (sss_cons (ss_set (i := 2) rfl rfl (se_lst sa_nil) rfl)
  (sss_cons (ss_for (si_seq (se_ixP (se_var (i := 0) rfl rfl rfl rfl) se_int (fun _ _ => rfl))) (sg_name (i := 3) rfl rfl) (sss_cons (ss_if (st_eq (se_ixP (se_var (i := 3) rfl rfl rfl rfl) se_int (fun _ _ => rfl)) se_str) (sss_cons (ss_expr (se_append (se_var (i := 2) rfl rfl rfl rfl) (sa_cons rfl (se_var (i := 3) rfl rfl rfl rfl) sa_nil) rfl rfl rfl) rfl)
  sss_nil) (sss_cons (ss_set (i := 2) rfl rfl (se_add (se_var (i := 2) rfl rfl rfl rfl) (se_list rfl rfl Y.g_list (sa_cons rfl (se_ixP (se_var (i := 3) rfl rfl rfl rfl) se_int (fun _ _ => rfl)) sa_nil) rfl)) rfl)
  sss_nil))
  sss_nil) rfl)
  (sss_cons (ss_ret (se_tup (sa_cons rfl (se_tuple rfl rfl Y.g_tuple (sa_cons rfl (se_lc (own := [("name", 4)])  (si_seq (se_var (i := 2) rfl rfl rfl rfl)) (by rfl) (sg_name (i := 4) rfl rfl) sts_nil (se_ixP (se_var (i := 4) rfl rfl rfl rfl) se_int (fun _ _ => rfl)) rfl (by decide)) sa_nil) rfl) (sa_cons rfl (se_call ((ok__law_bound Y 12).mono (by decide)) rfl Y.m__law_bound rfl (sa_cons rfl (se_var (i := 0) rfl rfl rfl rfl) (sa_cons rfl (se_var (i := 2) rfl rfl rfl rfl) sa_nil)) rfl rfl) (sa_cons rfl (se_call ((ok__law_bound Y 12).mono (by decide)) rfl Y.m__law_bound rfl (sa_cons rfl (se_var (i := 1) rfl rfl rfl rfl) (sa_cons rfl (se_var (i := 2) rfl rfl rfl rfl) sa_nil)) rfl rfl) sa_nil)))))
  sss_nil)))
theorem ok__law_rule (Y : Fx T) : FnF T 14 (He.fAd T.K ("_law_rule", none)) 2 f__law_rule [] := let ⟨_, F⟩ := Y.f__law_rule; FnF.of F sc__law_rule (F.bindsN (ps := ["left", "right"]) (fun _ _ _ _ _ _ us hl => match us, hl with | [_, _], _ => rfl)) (s__law_rule Y) (Nat.le_refl _)
def n__law_rules_of : List Str := ["told", "f", "takes", "gives", "at", "rights", "makers", "k", "right"]
theorem sc__law_rules_of : L2.FnScope n__law_rules_of ["told"] (defScope t__law_rules_of) := ⟨rfl, rfl, rfl, by decide +kernel, rfl, by decide +kernel, by decide +kernel⟩
theorem s__law_rules_of (Y : Fx T) : SSs T 14 n__law_rules_of (defScope t__law_rules_of) (defBody t__law_rules_of) d__law_rules_of :=
  (sss_cons (ss_unp (sg_tup (sgs_cons (sg_name (i := 1) rfl rfl) (sgs_cons (sg_name (i := 2) rfl rfl) (sgs_cons (sg_name (i := 3) rfl rfl) (sgs_cons (sg_name (i := 4) rfl rfl) (sgs_cons (sg_name (i := 5) rfl rfl) sgs_nil rfl) rfl) rfl) rfl) rfl) rfl rfl) (se_var (i := 0) rfl rfl rfl rfl) rfl rfl)
  (sss_cons (ss_if (st_is (se_var (i := 4) rfl rfl rfl rfl) se_non) (sss_cons (ss_ret (se_lc (own := [("right", 8)])  (si_seq (se_var (i := 5) rfl rfl rfl rfl)) (by rfl) (sg_name (i := 8) rfl rfl) sts_nil (se_call ((ok__law_rule Y).mono (by decide)) rfl Y.m__law_rule rfl (sa_cons rfl (se_call ((ok__law_left Y).mono (by decide)) rfl Y.m__law_left rfl (sa_cons rfl (se_var (i := 0) rfl rfl rfl rfl) (sa_cons rfl se_non sa_nil)) rfl rfl) (sa_cons rfl (se_var (i := 8) rfl rfl rfl rfl) sa_nil)) rfl rfl) rfl (by decide)))
  sss_nil) sss_nil)
  (sss_cons (ss_set (i := 6) rfl rfl (se_call ((ok__law_makers Y).mono (by decide)) rfl Y.m__law_makers rfl (sa_cons rfl (se_ixP (se_var (i := 2) rfl rfl rfl rfl) (se_var (i := 4) rfl rfl rfl rfl) (fun _ _ => rfl)) sa_nil) rfl rfl) rfl)
  (sss_cons (ss_ret (se_lc (own := [("k", 7)])  (si_rng1 rfl rfl Y.g_range (sa_cons rfl (se_len rfl rfl Y.g_len (sa_cons rfl (se_var (i := 5) rfl rfl rfl rfl) sa_nil) rfl) sa_nil) rfl) (by rfl) (sg_name (i := 7) rfl rfl) sts_nil (se_call ((ok__law_rule Y).mono (by decide)) rfl Y.m__law_rule rfl (sa_cons rfl (se_call ((ok__law_left Y).mono (by decide)) rfl Y.m__law_left rfl (sa_cons rfl (se_var (i := 0) rfl rfl rfl rfl) (sa_cons rfl (se_ixP (se_var (i := 6) rfl rfl rfl rfl) (se_var (i := 7) rfl rfl rfl rfl) (fun _ _ => rfl)) sa_nil)) rfl rfl) (sa_cons rfl (se_ixP (se_var (i := 5) rfl rfl rfl rfl) (se_var (i := 7) rfl rfl rfl rfl) (fun _ _ => rfl)) sa_nil)) rfl rfl) rfl (by decide)))
  sss_nil))))
theorem ok__law_rules_of (Y : Fx T) : FnF T 15 (He.fAd T.K ("_law_rules_of", none)) 1 f__law_rules_of [] := let ⟨_, F⟩ := Y.f__law_rules_of; FnF.of F sc__law_rules_of (F.bindsN (ps := ["told"]) (fun _ _ _ _ _ _ us hl => match us, hl with | [_], _ => rfl)) (s__law_rules_of Y) (Nat.le_refl _)
def n__law_fits : List Str := ["pattern", "term", "found", "part", "one"]
theorem sc__law_fits : L2.FnScope n__law_fits ["pattern", "term", "found"] (defScope t__law_fits) := ⟨rfl, rfl, rfl, by decide +kernel, rfl, by decide +kernel, by decide +kernel⟩
theorem s__law_fits (Y : Fx T) {k : Nat} (hk : 0 ≤ k) {rec : Fn} (hrec : FnF T k (He.fAd T.K ("_law_fits", none)) 3 rec []) : SSs T k n__law_fits (defScope t__law_fits) (defBody t__law_fits) (d__law_fits rec) :=
  (sss_cons (ss_if (st_eq (se_ixP (se_var (i := 0) rfl rfl rfl rfl) se_int (fun _ _ => rfl)) se_str) (sss_cons (ss_if (st_is (se_ixP (se_var (i := 2) rfl rfl rfl rfl) (se_ixP (se_var (i := 0) rfl rfl rfl rfl) se_int (fun _ _ => rfl)) (fun _ _ => rfl)) se_non) (sss_cons (ss_lset (se_var (i := 1) rfl rfl rfl rfl) (se_var (i := 2) rfl rfl rfl rfl) (se_ixP (se_var (i := 0) rfl rfl rfl rfl) se_int (fun _ _ => rfl)) rfl (fun _ _ => rfl) (fun _ => rfl) (fun _ => rfl))
  sss_nil) sss_nil)
  (sss_cons (ss_ret (se_eq (se_ixP (se_var (i := 2) rfl rfl rfl rfl) (se_ixP (se_var (i := 0) rfl rfl rfl rfl) se_int (fun _ _ => rfl)) (fun _ _ => rfl)) (se_var (i := 1) rfl rfl rfl rfl)))
  sss_nil)) sss_nil)
  (sss_cons (ss_if (st_w (sw_or (st_eq (se_ixP (se_var (i := 0) rfl rfl rfl rfl) se_int (fun _ _ => rfl)) se_str) (sw_or (st_ne (se_ixP (se_var (i := 1) rfl rfl rfl rfl) se_int (fun _ _ => rfl)) se_str) (sw_or1 (st_ne (se_ixP (se_var (i := 0) rfl rfl rfl rfl) se_int (fun _ _ => rfl)) (se_ixP (se_var (i := 1) rfl rfl rfl rfl) se_int (fun _ _ => rfl))))))) (sss_cons (ss_ret (se_eq (se_var (i := 0) rfl rfl rfl rfl) (se_var (i := 1) rfl rfl rfl rfl)))
  sss_nil) sss_nil)
  (sss_cons (ss_ret (se_all rfl rfl Y.g_all (sa_cons rfl (se_lc (own := [("part", 3), ("one", 4)])  (si_zip rfl rfl Y.g_zip (sa_cons rfl (se_ixP (se_var (i := 0) rfl rfl rfl rfl) se_int (fun _ _ => rfl)) (sa_cons rfl (se_ixP (se_var (i := 1) rfl rfl rfl rfl) se_int (fun _ _ => rfl)) sa_nil)) rfl rfl) (by rfl) (sg_tup (sgs_cons (sg_name (i := 3) rfl rfl) (sgs_cons (sg_name (i := 4) rfl rfl) sgs_nil rfl) rfl) rfl rfl) sts_nil (se_call hrec rfl Y.m__law_fits rfl (sa_cons rfl (se_var (i := 3) rfl rfl rfl rfl) (sa_cons rfl (se_var (i := 4) rfl rfl rfl rfl) (sa_cons rfl (se_var (i := 2) rfl rfl rfl rfl) sa_nil))) rfl rfl) rfl (by decide)) sa_nil) rfl))
  sss_nil)))
theorem ok__law_fits (Y : Fx T) : ∀ n, FnF T (1 + n) (He.fAd T.K ("_law_fits", none)) 3 (f__law_fits n) []
  | 0 => let ⟨_, F⟩ := Y.f__law_fits; FnF.of F sc__law_fits (F.bindsN (ps := ["pattern", "term", "found"]) (fun _ _ _ _ _ _ us hl => match us, hl with | [_, _, _], _ => rfl)) (sss_bad (k := 0)) (Nat.le_refl _)
  | n + 1 => let ⟨_, F⟩ := Y.f__law_fits; FnF.of F sc__law_fits (F.bindsN (ps := ["pattern", "term", "found"]) (fun _ _ _ _ _ _ us hl => match us, hl with | [_, _, _], _ => rfl)) (s__law_fits Y (k := 1 + n) (by omega) (ok__law_fits Y n |>.mono (by omega))) (by omega)
def n__law_gives : List Str := ["works", "found", "kind", "makers", "maker", "takes", "told"]
theorem sc__law_gives : L2.FnScope n__law_gives ["works"] (defScope t__law_gives) := ⟨rfl, rfl, rfl, by decide +kernel, rfl, by decide +kernel, by decide +kernel⟩
theorem s__law_gives (Y : Fx T) : SSs T 1 n__law_gives (defScope t__law_gives) (defBody t__law_gives) d__law_gives :=
  (sss_cons (ss_set (i := 1) rfl rfl (se_dict rfl rfl Y.g_dict (sa_cons rfl (se_lc (own := [("told", 6)])  (si_seq (se_call ((ok__law_makes Y).mono (by decide)) rfl Y.m__law_makes rfl (sa_cons rfl (se_var (i := 0) rfl rfl rfl rfl) sa_nil) rfl rfl)) (by rfl) (sg_name (i := 6) rfl rfl) sts_nil (se_tup (sa_cons rfl (se_ixP (se_var (i := 6) rfl rfl rfl rfl) se_int (fun _ _ => rfl)) (sa_cons rfl (se_ixP (se_var (i := 6) rfl rfl rfl rfl) se_int (fun _ _ => rfl)) sa_nil))) rfl (by decide)) sa_nil) rfl) rfl)
  (sss_cons (ss_for (si_seq (se_call0 ((ok__law_kinds Y).mono (by decide)) rfl Y.m__law_kinds rfl)) (sg_tup (sgs_cons (sg_name (i := 2) rfl rfl) (sgs_cons (sg_name (i := 3) rfl rfl) sgs_nil rfl) rfl) rfl rfl) (sss_cons (ss_for (si_seq (se_var (i := 3) rfl rfl rfl rfl)) (sg_tup (sgs_cons (sg_name (i := 4) rfl rfl) (sgs_cons (sg_name (i := 5) rfl rfl) sgs_nil rfl) rfl) rfl rfl) (sss_cons (ss_dput (se_var (i := 2) rfl rfl rfl rfl) (se_var (i := 1) rfl rfl rfl rfl) (se_var (i := 4) rfl rfl rfl rfl) rfl)
  sss_nil) rfl)
  sss_nil) rfl)
  (sss_cons (ss_ret (se_var (i := 1) rfl rfl rfl rfl))
  sss_nil)))
theorem ok__law_gives (Y : Fx T) : FnF T 2 (He.fAd T.K ("_law_gives", none)) 1 f__law_gives [] := let ⟨_, F⟩ := Y.f__law_gives; FnF.of F sc__law_gives (F.bindsN (ps := ["works"]) (fun _ _ _ _ _ _ us hl => match us, hl with | [_], _ => rfl)) (s__law_gives Y) (Nat.le_refl _)
def n__law_kind_of : List Str := ["term", "works"]
theorem sc__law_kind_of : L2.FnScope n__law_kind_of ["term", "works"] (defScope t__law_kind_of) := ⟨rfl, rfl, rfl, by decide +kernel, rfl, by decide +kernel, by decide +kernel⟩
theorem s__law_kind_of (Y : Fx T) : SSs T 2 n__law_kind_of (defScope t__law_kind_of) (defBody t__law_kind_of) d__law_kind_of :=
  (sss_cons (ss_if (st_eq (se_ixP (se_var (i := 0) rfl rfl rfl rfl) se_int (fun _ _ => rfl)) se_str) (sss_cons (ss_ret (se_ixP (se_var (i := 0) rfl rfl rfl rfl) se_int (fun _ _ => rfl)))
  sss_nil) sss_nil)
  (sss_cons (ss_ret (se_ixP (se_call ((ok__law_gives Y).mono (by decide)) rfl Y.m__law_gives rfl (sa_cons rfl (se_var (i := 1) rfl rfl rfl rfl) sa_nil) rfl rfl) (se_ixP (se_var (i := 0) rfl rfl rfl rfl) se_int (fun _ _ => rfl)) (fun _ _ => rfl)))
  sss_nil))
theorem ok__law_kind_of (Y : Fx T) : FnF T 3 (He.fAd T.K ("_law_kind_of", none)) 2 f__law_kind_of [] := let ⟨_, F⟩ := Y.f__law_kind_of; FnF.of F sc__law_kind_of (F.bindsN (ps := ["term", "works"]) (fun _ _ _ _ _ _ us hl => match us, hl with | [_, _], _ => rfl)) (s__law_kind_of Y) (Nat.le_refl _)
def n__law_drawn_rule : List Str := ["source", "works", "rules", "told", "slots", "makes", "f", "takes", "gives", "left", "parts", "right", "part", "kind", "slot"]
theorem sc__law_drawn_rule : L2.FnScope n__law_drawn_rule ["source", "works"] (defScope t__law_drawn_rule) := ⟨rfl, rfl, rfl, by decide +kernel, rfl, by decide +kernel, by decide +kernel⟩
theorem s__law_drawn_rule (Y : Fx T) : SSs T 15 n__law_drawn_rule (defScope t__law_drawn_rule) (defBody t__law_drawn_rule) d__law_drawn_rule :=
  (sss_cons (ss_set (i := 2) rfl rfl (se_lst sa_nil) rfl)
  (sss_cons (ss_for (si_seq (se_var (i := 1) rfl rfl rfl rfl)) (sg_name (i := 3) rfl rfl) (sss_cons (ss_set (i := 2) rfl rfl (se_add (se_var (i := 2) rfl rfl rfl rfl) (se_call ((ok__law_rules_of Y).mono (by decide)) rfl Y.m__law_rules_of rfl (sa_cons rfl (se_var (i := 3) rfl rfl rfl rfl) sa_nil) rfl rfl)) rfl)
  sss_nil) rfl)
  (sss_cons (ss_if (st_w (sw_and (st_ne (se_var (i := 2) rfl rfl rfl rfl) (se_lst sa_nil)) (sw_and1 (st_eq (se_call ((ok__law_take Y).mono (by decide)) rfl Y.m__law_take rfl (sa_cons rfl (se_var (i := 0) rfl rfl rfl rfl) (sa_cons rfl se_int sa_nil)) rfl rfl) se_int)))) (sss_cons (ss_ret (se_ixP (se_var (i := 2) rfl rfl rfl rfl) (se_call ((ok__law_take Y).mono (by decide)) rfl Y.m__law_take rfl (sa_cons rfl (se_var (i := 0) rfl rfl rfl rfl) (sa_cons rfl (se_len rfl rfl Y.g_len (sa_cons rfl (se_var (i := 2) rfl rfl rfl rfl) sa_nil) rfl) sa_nil)) rfl rfl) (fun _ _ => rfl)))
  sss_nil) sss_nil)
  (sss_cons (ss_set (i := 4) rfl rfl (se_call0 ((ok__law_slots Y).mono (by decide)) rfl Y.m__law_slots rfl) rfl)
  (sss_cons (ss_set (i := 5) rfl rfl (se_call ((ok__law_makes Y).mono (by decide)) rfl Y.m__law_makes rfl (sa_cons rfl (se_var (i := 1) rfl rfl rfl rfl) sa_nil) rfl rfl) rfl)
  (sss_cons (ss_unp (sg_tup (sgs_cons (sg_name (i := 6) rfl rfl) (sgs_cons (sg_name (i := 7) rfl rfl) (sgs_cons (sg_name (i := 8) rfl rfl) sgs_nil rfl) rfl) rfl) rfl rfl) (se_ixP (se_var (i := 5) rfl rfl rfl rfl) (se_call ((ok__law_take Y).mono (by decide)) rfl Y.m__law_take rfl (sa_cons rfl (se_var (i := 0) rfl rfl rfl rfl) (sa_cons rfl (se_len rfl rfl Y.g_len (sa_cons rfl (se_var (i := 5) rfl rfl rfl rfl) sa_nil) rfl) sa_nil)) rfl rfl) (fun _ _ => rfl)) rfl rfl)
  (sss_cons (ss_set (i := 9) rfl rfl (se_tup (sa_cons rfl se_str (sa_cons rfl (se_var (i := 6) rfl rfl rfl rfl) (sa_cons rfl (se_tuple rfl rfl Y.g_tuple (sa_cons rfl (se_lc (own := [("kind", 13)])  (si_seq (se_var (i := 7) rfl rfl rfl rfl)) (by rfl) (sg_name (i := 13) rfl rfl) sts_nil (se_call ((ok__law_term_d1 Y 6).mono (by decide)) rfl Y.m__law_term rfl (sa_cons rfl (se_var (i := 0) rfl rfl rfl rfl) (sa_cons rfl (se_var (i := 13) rfl rfl rfl rfl) (sa_cons rfl (se_add (se_slice (se_call0 ((ok__law_names Y).mono (by decide)) rfl Y.m__law_names rfl) so_none (so_some se_int)) (se_var (i := 4) rfl rfl rfl rfl)) (sa_cons rfl (se_var (i := 1) rfl rfl rfl rfl) (sa_cons rfl se_int sa_nil))))) rfl rfl) rfl (by decide)) sa_nil) rfl) sa_nil)))) rfl)
  (sss_cons (ss_setLc (i := 10) (own := [("part", 12)]) rfl rfl rfl rfl (si_seq (se_slice (se_call ((ok__law_all_parts Y 12).mono (by decide)) rfl Y.m__law_all_parts rfl (sa_cons rfl (se_var (i := 9) rfl rfl rfl rfl) sa_nil) rfl rfl) (so_some se_int) so_none)) (by rfl) (sg_name (i := 12) rfl rfl) (sts_one (st_eq (se_call ((ok__law_kind_of Y).mono (by decide)) rfl Y.m__law_kind_of rfl (sa_cons rfl (se_var (i := 12) rfl rfl rfl rfl) (sa_cons rfl (se_var (i := 1) rfl rfl rfl rfl) sa_nil)) rfl rfl) (se_var (i := 8) rfl rfl rfl rfl))) (se_var (i := 12) rfl rfl rfl rfl) rfl (by decide))
  (sss_cons (ss_if (st_eq (se_var (i := 10) rfl rfl rfl rfl) (se_lst sa_nil)) (sss_cons (ss_set (i := 10) rfl rfl (se_call ((ok__law_atoms Y).mono (by decide)) rfl Y.m__law_atoms rfl (sa_cons rfl (se_var (i := 8) rfl rfl rfl rfl) (sa_cons rfl (se_lst sa_nil) sa_nil)) rfl rfl) rfl)
  sss_nil) sss_nil)
  (sss_cons (ss_set (i := 11) rfl rfl (se_ixP (se_var (i := 10) rfl rfl rfl rfl) (se_call ((ok__law_take Y).mono (by decide)) rfl Y.m__law_take rfl (sa_cons rfl (se_var (i := 0) rfl rfl rfl rfl) (sa_cons rfl (se_len rfl rfl Y.g_len (sa_cons rfl (se_var (i := 10) rfl rfl rfl rfl) sa_nil) rfl) sa_nil)) rfl rfl) (fun _ _ => rfl)) rfl)
  (sss_cons (ss_ret (se_tup (sa_cons rfl (se_tuple rfl rfl Y.g_tuple (sa_cons rfl (se_lc (own := [("slot", 14)])  (si_seq (se_var (i := 4) rfl rfl rfl rfl)) (by rfl) (sg_name (i := 14) rfl rfl) sts_nil (se_ixP (se_var (i := 14) rfl rfl rfl rfl) se_int (fun _ _ => rfl)) rfl (by decide)) sa_nil) rfl) (sa_cons rfl (se_call ((ok__law_bound Y 12).mono (by decide)) rfl Y.m__law_bound rfl (sa_cons rfl (se_var (i := 9) rfl rfl rfl rfl) (sa_cons rfl (se_var (i := 4) rfl rfl rfl rfl) sa_nil)) rfl rfl) (sa_cons rfl (se_call ((ok__law_bound Y 12).mono (by decide)) rfl Y.m__law_bound rfl (sa_cons rfl (se_var (i := 11) rfl rfl rfl rfl) (sa_cons rfl (se_var (i := 4) rfl rfl rfl rfl) sa_nil)) rfl rfl) sa_nil)))))
  sss_nil)))))))))))
theorem ok__law_drawn_rule (Y : Fx T) : FnF T 16 (He.fAd T.K ("_law_drawn_rule", none)) 2 f__law_drawn_rule [] := let ⟨_, F⟩ := Y.f__law_drawn_rule; FnF.of F sc__law_drawn_rule (F.bindsN (ps := ["source", "works"]) (fun _ _ _ _ _ _ us hl => match us, hl with | [_, _], _ => rfl)) (s__law_drawn_rule Y) (Nat.le_refl _)
def n__law_spoilt : List Str := ["source", "term", "works", "at"]
theorem sc__law_spoilt : L2.FnScope n__law_spoilt ["source", "term", "works"] (defScope t__law_spoilt) := ⟨rfl, rfl, rfl, by decide +kernel, rfl, by decide +kernel, by decide +kernel⟩
theorem s__law_spoilt (Y : Fx T) {k : Nat} (hk : 10 ≤ k) {rec : Fn} (hrec : FnF T k (He.fAd T.K ("_law_spoilt", none)) 3 rec []) : SSs T k n__law_spoilt (defScope t__law_spoilt) (defBody t__law_spoilt) (d__law_spoilt rec) :=
  (sss_cons (ss_if (st_w (sw_and (st_eq (se_ixP (se_var (i := 1) rfl rfl rfl rfl) se_int (fun _ _ => rfl)) se_str) (sw_and (st_ne (se_ixP (se_var (i := 1) rfl rfl rfl rfl) se_int (fun _ _ => rfl)) (se_tup sa_nil)) (sw_and1 (st_gt (se_call ((ok__law_take Y).mono (Nat.le_trans (by decide) hk)) rfl Y.m__law_take rfl (sa_cons rfl (se_var (i := 0) rfl rfl rfl rfl) (sa_cons rfl se_int sa_nil)) rfl rfl) se_int))))) (sss_cons (ss_set (i := 3) rfl rfl (se_call ((ok__law_take Y).mono (Nat.le_trans (by decide) hk)) rfl Y.m__law_take rfl (sa_cons rfl (se_var (i := 0) rfl rfl rfl rfl) (sa_cons rfl (se_len rfl rfl Y.g_len (sa_cons rfl (se_ixP (se_var (i := 1) rfl rfl rfl rfl) se_int (fun _ _ => rfl)) sa_nil) rfl) sa_nil)) rfl rfl) rfl)
  (sss_cons (ss_ret (se_tup (sa_cons rfl se_str (sa_cons rfl (se_ixP (se_var (i := 1) rfl rfl rfl rfl) se_int (fun _ _ => rfl)) (sa_cons rfl (se_add (se_add (se_slice (se_ixP (se_var (i := 1) rfl rfl rfl rfl) se_int (fun _ _ => rfl)) so_none (so_some (se_var (i := 3) rfl rfl rfl rfl))) (se_tup (sa_cons rfl (se_call hrec rfl Y.m__law_spoilt rfl (sa_cons rfl (se_var (i := 0) rfl rfl rfl rfl) (sa_cons rfl (se_ixP (se_ixP (se_var (i := 1) rfl rfl rfl rfl) se_int (fun _ _ => rfl)) (se_var (i := 3) rfl rfl rfl rfl) (fun _ _ => rfl)) (sa_cons rfl (se_var (i := 2) rfl rfl rfl rfl) sa_nil))) rfl rfl) sa_nil))) (se_slice (se_ixP (se_var (i := 1) rfl rfl rfl rfl) se_int (fun _ _ => rfl)) (so_some (se_add (se_var (i := 3) rfl rfl rfl rfl) se_int)) so_none)) sa_nil)))))
  sss_nil)) sss_nil)
  (sss_cons (ss_ret (se_call ((ok__law_term_d1 Y 6).mono (Nat.le_trans (by decide) hk)) rfl Y.m__law_term rfl (sa_cons rfl (se_var (i := 0) rfl rfl rfl rfl) (sa_cons rfl (se_call ((ok__law_kind_of Y).mono (Nat.le_trans (by decide) hk)) rfl Y.m__law_kind_of rfl (sa_cons rfl (se_var (i := 1) rfl rfl rfl rfl) (sa_cons rfl (se_var (i := 2) rfl rfl rfl rfl) sa_nil)) rfl rfl) (sa_cons rfl (se_call0 ((ok__law_names Y).mono (Nat.le_trans (by decide) hk)) rfl Y.m__law_names rfl) (sa_cons rfl (se_var (i := 2) rfl rfl rfl rfl) (sa_cons rfl se_int sa_nil))))) rfl rfl))
  sss_nil))
theorem ok__law_spoilt (Y : Fx T) : ∀ n, FnF T (11 + n) (He.fAd T.K ("_law_spoilt", none)) 3 (f__law_spoilt n) []
  | 0 => let ⟨_, F⟩ := Y.f__law_spoilt; FnF.of F sc__law_spoilt (F.bindsN (ps := ["source", "term", "works"]) (fun _ _ _ _ _ _ us hl => match us, hl with | [_, _, _], _ => rfl)) (sss_bad (k := 10)) (Nat.le_refl _)
  | n + 1 => let ⟨_, F⟩ := Y.f__law_spoilt; FnF.of F sc__law_spoilt (F.bindsN (ps := ["source", "term", "works"]) (fun _ _ _ _ _ _ us hl => match us, hl with | [_, _, _], _ => rfl)) (s__law_spoilt Y (k := 11 + n) (by omega) (ok__law_spoilt Y n |>.mono (by omega))) (by omega)
def n__law_right_told : List Str := ["ground", "rule", "term", "kinds", "left", "right", "due", "told"]
theorem sc__law_right_told : L2.FnScope n__law_right_told ["ground", "rule", "term"] (defScope t__law_right_told) := ⟨rfl, rfl, rfl, by decide +kernel, rfl, by decide +kernel, by decide +kernel⟩
theorem s__law_right_told (Y : Fx T) : SSs T 13 n__law_right_told (defScope t__law_right_told) (defBody t__law_right_told) d__law_right_told :=
  (sss_cons (ss_unp (sg_tup (sgs_cons (sg_name (i := 3) rfl rfl) (sgs_cons (sg_name (i := 4) rfl rfl) (sgs_cons (sg_name (i := 5) rfl rfl) sgs_nil rfl) rfl) rfl) rfl rfl) (se_var (i := 1) rfl rfl rfl rfl) rfl rfl)
  (sss_cons (ss_set (i := 6) rfl rfl (se_mul (se_lst (sa_cons rfl se_non sa_nil)) (se_len rfl rfl Y.g_len (sa_cons rfl (se_var (i := 3) rfl rfl rfl rfl) sa_nil) rfl)) rfl)
  (sss_cons (ss_set (i := 7) rfl rfl (se_call ((ok_fitting Y).mono (by decide)) rfl Y.m_fitting rfl (sa_cons rfl (se_var (i := 0) rfl rfl rfl rfl) (sa_cons rfl (se_var (i := 1) rfl rfl rfl rfl) (sa_cons rfl (se_var (i := 2) rfl rfl rfl rfl) sa_nil))) rfl rfl) rfl)
  (sss_cons (ss_if (st_not (st_val (fun _ _ => rfl) (se_call ((ok__law_fits Y 12).mono (by decide)) rfl Y.m__law_fits rfl (sa_cons rfl (se_var (i := 4) rfl rfl rfl rfl) (sa_cons rfl (se_var (i := 2) rfl rfl rfl rfl) (sa_cons rfl (se_var (i := 6) rfl rfl rfl rfl) sa_nil))) rfl rfl))) (sss_cons (ss_ret (se_is (se_var (i := 7) rfl rfl rfl rfl) se_non))
  sss_nil) sss_nil)
  (sss_cons (ss_if (st_w (sw_or (st_not (st_val (fun _ _ => rfl) (se_isi rfl rfl Y.g_isinstance (sa_cons rfl (se_var (i := 7) rfl rfl rfl rfl) (sa_cons rfl (se_cls (n := "tuple") rfl Y.g_tuple (by decide +kernel) (by decide) rfl) sa_nil)) rfl rfl))) (sw_or1 (st_ne (se_var (i := 7) rfl rfl rfl rfl) (se_tuple rfl rfl Y.g_tuple (sa_cons rfl (se_var (i := 6) rfl rfl rfl rfl) sa_nil) rfl))))) (sss_cons (ss_ret se_bl)
  sss_nil) sss_nil)
  (sss_cons (ss_ret (se_and (se_eq (se_call ((ok_filled Y 12).mono (by decide)) rfl Y.m_filled rfl (sa_cons rfl (se_var (i := 4) rfl rfl rfl rfl) (sa_cons rfl (se_var (i := 7) rfl rfl rfl rfl) sa_nil)) rfl rfl) (se_var (i := 2) rfl rfl rfl rfl)) (se_one (se_eq (se_call ((ok_filled Y 12).mono (by decide)) rfl Y.m_filled rfl (sa_cons rfl (se_var (i := 5) rfl rfl rfl rfl) (sa_cons rfl (se_var (i := 7) rfl rfl rfl rfl) sa_nil)) rfl rfl) (se_call ((ok__law_put Y 12).mono (by decide)) rfl Y.m__law_put rfl (sa_cons rfl (se_var (i := 5) rfl rfl rfl rfl) (sa_cons rfl (se_var (i := 6) rfl rfl rfl rfl) sa_nil)) rfl rfl)))))
  sss_nil))))))
theorem ok__law_right_told (Y : Fx T) : FnF T 14 (He.fAd T.K ("_law_right_told", none)) 3 f__law_right_told [] := let ⟨_, F⟩ := Y.f__law_right_told; FnF.of F sc__law_right_told (F.bindsN (ps := ["ground", "rule", "term"]) (fun _ _ _ _ _ _ us hl => match us, hl with | [_, _, _], _ => rfl)) (s__law_right_told Y) (Nat.le_refl _)
def n_law : List Str := ["script", "works", "ground", "k", "source", "rule", "parts", "term", "way", "kind"]
theorem sc_law : L2.FnScope n_law ["script"] (defScope t_law) := ⟨rfl, rfl, rfl, by decide +kernel, rfl, by decide +kernel, by decide +kernel⟩
theorem s_law (Y : Fx T) : SSs T 23 n_law (defScope t_law) (defBody t_law) d_law :=
  (sss_cons (ss_set (i := 1) rfl rfl (se_call ((ok__law_works Y).mono (by decide)) rfl Y.m__law_works rfl (sa_cons rfl (se_call ((ok__law_source Y).mono (by decide)) rfl Y.m__law_source rfl (sa_cons rfl (se_var (i := 0) rfl rfl rfl rfl) (sa_cons rfl se_int sa_nil)) rfl rfl) sa_nil) rfl rfl) rfl)
  (sss_cons (ss_set (i := 2) rfl rfl (se_call ((ok__law_ground Y).mono (by decide)) rfl Y.m__law_ground rfl (sa_cons rfl (se_var (i := 1) rfl rfl rfl rfl) sa_nil) rfl rfl) rfl)
  (sss_cons (ss_for (si_rng2 rfl rfl Y.g_range (sa_cons rfl se_int (sa_cons rfl (se_add se_int (se_min2 rfl rfl Y.g_min (sa_cons rfl se_int (sa_cons rfl (se_max2 rfl rfl Y.g_max (sa_cons rfl se_int (sa_cons rfl (se_sub (se_len rfl rfl Y.g_len (sa_cons rfl (se_var (i := 0) rfl rfl rfl rfl) sa_nil) rfl) se_int) sa_nil)) rfl rfl) sa_nil)) rfl rfl)) sa_nil)) rfl rfl) (sg_name (i := 3) rfl rfl) (sss_cons (ss_set (i := 4) rfl rfl (se_call ((ok__law_source Y).mono (by decide)) rfl Y.m__law_source rfl (sa_cons rfl (se_var (i := 0) rfl rfl rfl rfl) (sa_cons rfl (se_var (i := 3) rfl rfl rfl rfl) sa_nil)) rfl rfl) rfl)
  (sss_cons (ss_set (i := 5) rfl rfl (se_call ((ok__law_drawn_rule Y).mono (by decide)) rfl Y.m__law_drawn_rule rfl (sa_cons rfl (se_var (i := 4) rfl rfl rfl rfl) (sa_cons rfl (se_var (i := 1) rfl rfl rfl rfl) sa_nil)) rfl rfl) rfl)
  (sss_cons (ss_setLc (i := 6) (own := [("kind", 9)]) rfl rfl rfl rfl (si_seq (se_ixP (se_var (i := 5) rfl rfl rfl rfl) se_int (fun _ _ => rfl))) (by rfl) (sg_name (i := 9) rfl rfl) sts_nil (se_call ((ok__law_term_d1 Y 6).mono (by decide)) rfl Y.m__law_term rfl (sa_cons rfl (se_var (i := 4) rfl rfl rfl rfl) (sa_cons rfl (se_var (i := 9) rfl rfl rfl rfl) (sa_cons rfl (se_call0 ((ok__law_names Y).mono (by decide)) rfl Y.m__law_names rfl) (sa_cons rfl (se_var (i := 1) rfl rfl rfl rfl) (sa_cons rfl se_int sa_nil))))) rfl rfl) rfl (by decide))
  (sss_cons (ss_set (i := 7) rfl rfl (se_call ((ok__law_put Y 12).mono (by decide)) rfl Y.m__law_put rfl (sa_cons rfl (se_ixP (se_var (i := 5) rfl rfl rfl rfl) se_int (fun _ _ => rfl)) (sa_cons rfl (se_var (i := 6) rfl rfl rfl rfl) sa_nil)) rfl rfl) rfl)
  (sss_cons (ss_set (i := 8) rfl rfl (se_call ((ok__law_take Y).mono (by decide)) rfl Y.m__law_take rfl (sa_cons rfl (se_var (i := 4) rfl rfl rfl rfl) (sa_cons rfl se_int sa_nil)) rfl rfl) rfl)
  (sss_cons (ss_if (st_eq (se_var (i := 8) rfl rfl rfl rfl) se_int) (sss_cons (ss_set (i := 7) rfl rfl (se_call ((ok__law_spoilt Y 12).mono (by decide)) rfl Y.m__law_spoilt rfl (sa_cons rfl (se_var (i := 4) rfl rfl rfl rfl) (sa_cons rfl (se_var (i := 7) rfl rfl rfl rfl) (sa_cons rfl (se_var (i := 1) rfl rfl rfl rfl) sa_nil))) rfl rfl) rfl)
  sss_nil) sss_nil)
  (sss_cons (ss_if (st_eq (se_var (i := 8) rfl rfl rfl rfl) se_int) (sss_cons (ss_set (i := 7) rfl rfl (se_call ((ok__law_term_d1 Y 6).mono (by decide)) rfl Y.m__law_term rfl (sa_cons rfl (se_var (i := 4) rfl rfl rfl rfl) (sa_cons rfl (se_call ((ok__law_kind_of Y).mono (by decide)) rfl Y.m__law_kind_of rfl (sa_cons rfl (se_var (i := 7) rfl rfl rfl rfl) (sa_cons rfl (se_var (i := 1) rfl rfl rfl rfl) sa_nil)) rfl rfl) (sa_cons rfl (se_call0 ((ok__law_names Y).mono (by decide)) rfl Y.m__law_names rfl) (sa_cons rfl (se_var (i := 1) rfl rfl rfl rfl) (sa_cons rfl se_int sa_nil))))) rfl rfl) rfl)
  sss_nil) sss_nil)
  (sss_cons (ss_if (st_not (st_val (fun _ _ => rfl) (se_call ((ok__law_right_told Y).mono (by decide)) rfl Y.m__law_right_told rfl (sa_cons rfl (se_var (i := 2) rfl rfl rfl rfl) (sa_cons rfl (se_var (i := 5) rfl rfl rfl rfl) (sa_cons rfl (se_var (i := 7) rfl rfl rfl rfl) sa_nil))) rfl rfl))) (sss_cons (ss_ret se_bl)
  sss_nil) sss_nil)
  sss_nil)))))))) rfl)
  (sss_cons (ss_ret se_bl)
  sss_nil))))
theorem ok_law (Y : Fx T) : FnF T 24 (He.fAd T.K ("law", none)) 1 f_law [] := let ⟨_, F⟩ := Y.f_law; FnF.of F sc_law (F.bindsN (ps := ["script"]) (fun _ _ _ _ _ _ us hl => match us, hl with | [_], _ => rfl)) (s_law Y) (Nat.le_refl _)
end
end K72
end
section
set_option Elab.async false
set_option linter.all false
set_option maxRecDepth 100000
set_option maxHeartbeats 0
namespace K72
open PySem PySem.Spec L2 Mn PyProof.Rows
abbrev lw : PySem.W.OpenLaw := PySem.Challenge.rw_samesmith_k72_lefts_held_against_terms
def D_is_told_name : He.DefD := ⟨("is_told_name", none), "is_told_name", "is_told_name", defArgs t_is_told_name, defBody t_is_told_name, defScope t_is_told_name, [], []⟩
def D_Ground_is_kind : He.DefD := ⟨("Ground", some "is_kind"), "is_kind", "Ground.is_kind", defArgs t_Ground_is_kind, defBody t_Ground_is_kind, defScope t_Ground_is_kind, [], []⟩
def D_Ground_is_maker : He.DefD := ⟨("Ground", some "is_maker"), "is_maker", "Ground.is_maker", defArgs t_Ground_is_maker, defBody t_Ground_is_maker, defScope t_Ground_is_maker, [], []⟩
def D_Ground_is_work : He.DefD := ⟨("Ground", some "is_work"), "is_work", "Ground.is_work", defArgs t_Ground_is_work, defBody t_Ground_is_work, defScope t_Ground_is_work, [], []⟩
def D_Ground_takes : He.DefD := ⟨("Ground", some "takes"), "takes", "Ground.takes", defArgs t_Ground_takes, defBody t_Ground_takes, defScope t_Ground_takes, [], []⟩
def D_Ground_gives : He.DefD := ⟨("Ground", some "gives"), "gives", "Ground.gives", defArgs t_Ground_gives, defBody t_Ground_gives, defScope t_Ground_gives, [], []⟩
def D_kind_or_none : He.DefD := ⟨("kind_or_none", none), "kind_or_none", "kind_or_none", defArgs t_kind_or_none, defBody t_kind_or_none, defScope t_kind_or_none, [], []⟩
def D_kind_of : He.DefD := ⟨("kind_of", none), "kind_of", "kind_of", defArgs t_kind_of, defBody t_kind_of, defScope t_kind_of, [], []⟩
def D_things_within : He.DefD := ⟨("things_within", none), "things_within", "things_within", defArgs t_things_within, defBody t_things_within, defScope t_things_within, [], []⟩
def D_all_within : He.DefD := ⟨("all_within", none), "all_within", "all_within", defArgs t_all_within, defBody t_all_within, defScope t_all_within, [], []⟩
def D_signs_of : He.DefD := ⟨("signs_of", none), "signs_of", "signs_of", defArgs t_signs_of, defBody t_signs_of, defScope t_signs_of, [], []⟩
def D_names_of : He.DefD := ⟨("names_of", none), "names_of", "names_of", defArgs t_names_of, defBody t_names_of, defScope t_names_of, [], []⟩
def D_fits_at : He.DefD := ⟨("fits_at", none), "fits_at", "fits_at", defArgs t_fits_at, defBody t_fits_at, defScope t_fits_at, [], []⟩
def D_fitting : He.DefD := ⟨("fitting", none), "fitting", "fitting", defArgs t_fitting, defBody t_fitting, defScope t_fitting, [], []⟩
def D_filled : He.DefD := ⟨("filled", none), "filled", "filled", defArgs t_filled, defBody t_filled, defScope t_filled, [], []⟩
def D_need : He.DefD := ⟨("need", none), "need", "need", defArgs t_need, defBody t_need, defScope t_need, [], []⟩
def D_is_list_of_texts : He.DefD := ⟨("is_list_of_texts", none), "is_list_of_texts", "is_list_of_texts", defArgs t_is_list_of_texts, defBody t_is_list_of_texts, defScope t_is_list_of_texts, [], []⟩
def D_Ground_is_new : He.DefD := ⟨("Ground", some "is_new"), "is_new", "Ground.is_new", defArgs t_Ground_is_new, defBody t_Ground_is_new, defScope t_Ground_is_new, [], []⟩
def D_Ground_is_open : He.DefD := ⟨("Ground", some "is_open"), "is_open", "Ground.is_open", defArgs t_Ground_is_open, defBody t_Ground_is_open, defScope t_Ground_is_open, [], []⟩
def D_Ground_check_right : He.DefD := ⟨("Ground", some "check_right"), "check_right", "Ground.check_right", defArgs t_Ground_check_right, defBody t_Ground_check_right, defScope t_Ground_check_right, [], []⟩
def D_Ground_check_falling : He.DefD := ⟨("Ground", some "check_falling"), "check_falling", "Ground.check_falling", defArgs t_Ground_check_falling, defBody t_Ground_check_falling, defScope t_Ground_check_falling, [], []⟩
def D_Ground_add_kind : He.DefD := ⟨("Ground", some "add_kind"), "add_kind", "Ground.add_kind", defArgs t_Ground_add_kind, defBody t_Ground_add_kind, defScope t_Ground_add_kind, [], []⟩
def D_Ground_add_work : He.DefD := ⟨("Ground", some "add_work"), "add_work", "Ground.add_work", defArgs t_Ground_add_work, defBody t_Ground_add_work, defScope t_Ground_add_work, [], []⟩
def D_Ground___init__ : He.DefD := ⟨("Ground", some "__init__"), "__init__", "Ground.__init__", defArgs t_Ground___init__, defBody t_Ground___init__, defScope t_Ground___init__, [], []⟩
def D__law_cell_at : He.DefD := ⟨("_law_cell_at", none), "_law_cell_at", "_law_cell_at", defArgs t__law_cell_at, defBody t__law_cell_at, defScope t__law_cell_at, [], []⟩
def D__law_mix : He.DefD := ⟨("_law_mix", none), "_law_mix", "_law_mix", defArgs t__law_mix, defBody t__law_mix, defScope t__law_mix, [], []⟩
def D__law_source : He.DefD := ⟨("_law_source", none), "_law_source", "_law_source", defArgs t__law_source, defBody t__law_source, defScope t__law_source, [], []⟩
def D__law_take : He.DefD := ⟨("_law_take", none), "_law_take", "_law_take", defArgs t__law_take, defBody t__law_take, defScope t__law_take, [], []⟩
def D__law_kinds : He.DefD := ⟨("_law_kinds", none), "_law_kinds", "_law_kinds", defArgs t__law_kinds, defBody t__law_kinds, defScope t__law_kinds, [], []⟩
def D__law_makers : He.DefD := ⟨("_law_makers", none), "_law_makers", "_law_makers", defArgs t__law_makers, defBody t__law_makers, defScope t__law_makers, [], []⟩
def D__law_makes : He.DefD := ⟨("_law_makes", none), "_law_makes", "_law_makes", defArgs t__law_makes, defBody t__law_makes, defScope t__law_makes, [], []⟩
def D__law_atoms : He.DefD := ⟨("_law_atoms", none), "_law_atoms", "_law_atoms", defArgs t__law_atoms, defBody t__law_atoms, defScope t__law_atoms, [], []⟩
def D__law_own : He.DefD := ⟨("_law_own", none), "_law_own", "_law_own", defArgs t__law_own, defBody t__law_own, defScope t__law_own, [], []⟩
def D__law_term : He.DefD := ⟨("_law_term", none), "_law_term", "_law_term", defArgs t__law_term, defBody t__law_term, defScope t__law_term, [.non], []⟩
def D__law_work : He.DefD := ⟨("_law_work", none), "_law_work", "_law_work", defArgs t__law_work, defBody t__law_work, defScope t__law_work, [], []⟩
def D__law_works : He.DefD := ⟨("_law_works", none), "_law_works", "_law_works", defArgs t__law_works, defBody t__law_works, defScope t__law_works, [], []⟩
def D__law_ground : He.DefD := ⟨("_law_ground", none), "_law_ground", "_law_ground", defArgs t__law_ground, defBody t__law_ground, defScope t__law_ground, [], []⟩
def D__law_names : He.DefD := ⟨("_law_names", none), "_law_names", "_law_names", defArgs t__law_names, defBody t__law_names, defScope t__law_names, [], []⟩
def D__law_slots : He.DefD := ⟨("_law_slots", none), "_law_slots", "_law_slots", defArgs t__law_slots, defBody t__law_slots, defScope t__law_slots, [], []⟩
def D__law_bound : He.DefD := ⟨("_law_bound", none), "_law_bound", "_law_bound", defArgs t__law_bound, defBody t__law_bound, defScope t__law_bound, [], []⟩
def D__law_put : He.DefD := ⟨("_law_put", none), "_law_put", "_law_put", defArgs t__law_put, defBody t__law_put, defScope t__law_put, [], []⟩
def D__law_all_parts : He.DefD := ⟨("_law_all_parts", none), "_law_all_parts", "_law_all_parts", defArgs t__law_all_parts, defBody t__law_all_parts, defScope t__law_all_parts, [], []⟩
def D__law_left : He.DefD := ⟨("_law_left", none), "_law_left", "_law_left", defArgs t__law_left, defBody t__law_left, defScope t__law_left, [], []⟩
def D__law_rule : He.DefD := ⟨("_law_rule", none), "_law_rule", "_law_rule", defArgs t__law_rule, defBody t__law_rule, defScope t__law_rule, [], []⟩
def D__law_rules_of : He.DefD := ⟨("_law_rules_of", none), "_law_rules_of", "_law_rules_of", defArgs t__law_rules_of, defBody t__law_rules_of, defScope t__law_rules_of, [], []⟩
def D__law_fits : He.DefD := ⟨("_law_fits", none), "_law_fits", "_law_fits", defArgs t__law_fits, defBody t__law_fits, defScope t__law_fits, [], []⟩
def D__law_gives : He.DefD := ⟨("_law_gives", none), "_law_gives", "_law_gives", defArgs t__law_gives, defBody t__law_gives, defScope t__law_gives, [], []⟩
def D__law_kind_of : He.DefD := ⟨("_law_kind_of", none), "_law_kind_of", "_law_kind_of", defArgs t__law_kind_of, defBody t__law_kind_of, defScope t__law_kind_of, [], []⟩
def D__law_drawn_rule : He.DefD := ⟨("_law_drawn_rule", none), "_law_drawn_rule", "_law_drawn_rule", defArgs t__law_drawn_rule, defBody t__law_drawn_rule, defScope t__law_drawn_rule, [], []⟩
def D__law_spoilt : He.DefD := ⟨("_law_spoilt", none), "_law_spoilt", "_law_spoilt", defArgs t__law_spoilt, defBody t__law_spoilt, defScope t__law_spoilt, [], []⟩
def D__law_right_told : He.DefD := ⟨("_law_right_told", none), "_law_right_told", "_law_right_told", defArgs t__law_right_told, defBody t__law_right_told, defScope t__law_right_told, [], []⟩
def D_law : He.DefD := ⟨("law", none), "law", "law", defArgs t_law, defBody t_law, defScope t_law, [], []⟩
def fn : List He.DefD := [D_is_told_name, D_Ground_is_kind, D_Ground_is_maker, D_Ground_is_work, D_Ground_takes, D_Ground_gives, D_kind_or_none, D_kind_of, D_things_within, D_all_within, D_signs_of, D_names_of, D_fits_at, D_fitting, D_filled, D_need, D_is_list_of_texts, D_Ground_is_new, D_Ground_is_open, D_Ground_check_right, D_Ground_check_falling, D_Ground_add_kind, D_Ground_add_work, D_Ground___init__, D__law_cell_at, D__law_mix, D__law_source, D__law_take, D__law_kinds, D__law_makers, D__law_makes, D__law_atoms, D__law_own, D__law_term, D__law_work, D__law_works, D__law_ground, D__law_names, D__law_slots, D__law_bound, D__law_put, D__law_all_parts, D__law_left, D__law_rule, D__law_rules_of, D__law_fits, D__law_gives, D__law_kind_of, D__law_drawn_rule, D__law_spoilt, D__law_right_told, D_law]
def fa : List He.Fa := [.free "all", .free "any", .free "bool", .free "dict", .free "enumerate", .free "int", .free "isinstance", .free "len", .free "list", .free "max", .free "min", .free "range", .free "set", .free "sorted", .free "str", .free "tuple", .free "zip", .glo "INNER", .int "MOST_IN_RIGHT" 40, .int "MOST_KINDS" 8, .int "MOST_LETTERS" 8, .int "MOST_MAKERS" 6, .int "MOST_TAKEN" 4, .int "MOST_WORKS" 16, .glo "OUTER", .str "SMALL" "abcdefghijklmnopqrstuvwxyz", .glo "WORDS", .glo "Ground", .cls "Ground", .mkr "Ground", .noat "Ground" "falls_row", .noat "Ground" "gives_row", .noat "Ground" "maker_names", .noat "Ground" "makers_row", .noat "Ground" "rights_row", .noat "Ground" "takes_row", .glo "is_told_name", .meth "Ground" "is_kind", .meth "Ground" "is_maker", .meth "Ground" "is_work", .meth "Ground" "takes", .meth "Ground" "gives", .glo "kind_or_none", .glo "kind_of", .glo "things_within", .glo "all_within", .glo "signs_of", .glo "names_of", .glo "fits_at", .glo "fitting", .glo "filled", .glo "need", .glo "is_list_of_texts", .meth "Ground" "is_new", .meth "Ground" "is_open", .meth "Ground" "check_right", .meth "Ground" "check_falling", .meth "Ground" "add_kind", .meth "Ground" "add_work", .glo "_law_cell_at", .glo "_law_mix", .glo "_law_source", .glo "_law_take", .glo "_law_kinds", .glo "_law_makers", .glo "_law_makes", .glo "_law_atoms", .glo "_law_own", .glo "_law_term", .glo "_law_work", .glo "_law_works", .glo "_law_ground", .glo "_law_names", .glo "_law_slots", .glo "_law_bound", .glo "_law_put", .glo "_law_all_parts", .glo "_law_left", .glo "_law_rule", .glo "_law_rules_of", .glo "_law_fits", .glo "_law_gives", .glo "_law_kind_of", .glo "_law_drawn_rule", .glo "_law_spoilt", .glo "_law_right_told", .glo "law"]
def exB (K : PySem.W.Frag) : Bool := Mn.noLists K && He.tupB K "INNER" [.str "ya", .str "yb", .str "yc", .str "yd"] && He.tupB K "OUTER" [.str "xa", .str "xb", .str "xc", .str "xd"] && He.tupB K "WORDS" [.str "no", .str "not", .str "and", .str "or", .str "so", .str "all", .str "some"]
abbrev R : PySem.W.OpenRow := PySem.W.OpenLaw.row lw
abbrev hk : PySem.W.Hook := He.hookX 5 fa fn [] [] exB
def ob (s : PySem.W.SharedT) : He.AlX := He.obsX 5 fa fn [] [] exB (HandSHeadRun.getT s)
theorem ob_eq (s : PySem.W.SharedT) : ob s = hk.obs s.abs := He.obsX_eq (HandSHeadRun.getT_eq s)
def lo0 : List Str := ["_wall", "SMALL", "WORDS", "MOST_LETTERS", "is_told_name", "kind_or_none", "kind_of", "things_within", "all_within", "signs_of", "names_of", "fits_at", "fitting", "filled", "SmithError", "NoGround", "MOST_KINDS", "MOST_MAKERS", "MOST_WORKS", "MOST_TAKEN", "MOST_IN_RIGHT", "OUTER", "INNER", "need", "is_list_of_texts", "Ground", "_law_cell_at", "_law_mix", "_law_source", "_law_take"]
def lo1 : List Str := ["_law_kinds", "_law_makers", "_law_makes", "_law_atoms", "_law_own", "_law_term", "_law_work", "_law_works", "_law_ground", "_law_names", "_law_slots", "_law_kind", "_law_bound", "_law_put", "_law_all_parts", "_law_left", "_law_rule", "_law_rules_of", "_law_fits", "_law_drawn_rule", "_law_gives", "_law_kind_of", "_law_spoilt", "_law_right_told"]
abbrev loose : List Str := lo0 ++ lo1
theorem run (w : World) : HandSHeadRun.RunEq R (PySem.W.view R.prog [59]) hk ob 4000 loose w := by
  intro os
  kernel_rfl
end K72
end
section
set_option Elab.async false
set_option linter.all false
set_option maxRecDepth 100000
set_option maxHeartbeats 0
namespace K72
open PySem PySem.Spec L2 Mn PyProof.Rows
theorem fx {P : Program} {w : World} {K : PySem.W.Frag} {h : Heap} {mg : Str → Option Value} {base : Heap} (X : K.In h) (G : h.Ns mainGlobals mg) (c : He.SaysX fa fn [] [] exB w h K) : Fx (Mn.ttOf P w K mg base) where
  g_all := He.free_ok X G (c.t.d.fact 0)
  g_any := He.free_ok X G (c.t.d.fact 1)
  g_bool := He.free_ok X G (c.t.d.fact 2)
  g_dict := He.free_ok X G (c.t.d.fact 3)
  g_enumerate := He.free_ok X G (c.t.d.fact 4)
  g_int := He.free_ok X G (c.t.d.fact 5)
  g_isinstance := He.free_ok X G (c.t.d.fact 6)
  g_len := He.free_ok X G (c.t.d.fact 7)
  g_list := He.free_ok X G (c.t.d.fact 8)
  g_max := He.free_ok X G (c.t.d.fact 9)
  g_min := He.free_ok X G (c.t.d.fact 10)
  g_range := He.free_ok X G (c.t.d.fact 11)
  g_set := He.free_ok X G (c.t.d.fact 12)
  g_sorted := He.free_ok X G (c.t.d.fact 13)
  g_str := He.free_ok X G (c.t.d.fact 14)
  g_tuple := He.free_ok X G (c.t.d.fact 15)
  g_zip := He.free_ok X G (c.t.d.fact 16)
  c_INNER := Mn.con_tup (He.glo_ok X G (c.t.d.fact 17)) (He.ba (He.ba (He.ba c.more).1).1).2 rfl rfl
  c_MOST_IN_RIGHT := Mn.con_int (He.int_ok X G (c.t.d.fact 18))
  c_MOST_KINDS := Mn.con_int (He.int_ok X G (c.t.d.fact 19))
  c_MOST_LETTERS := Mn.con_int (He.int_ok X G (c.t.d.fact 20))
  c_MOST_MAKERS := Mn.con_int (He.int_ok X G (c.t.d.fact 21))
  c_MOST_TAKEN := Mn.con_int (He.int_ok X G (c.t.d.fact 22))
  c_MOST_WORKS := Mn.con_int (He.int_ok X G (c.t.d.fact 23))
  c_OUTER := Mn.con_tup (He.glo_ok X G (c.t.d.fact 24)) (He.ba (He.ba c.more).1).2 rfl rfl
  c_SMALL := Mn.con_str (He.str_ok X G (c.t.d.fact 25))
  c_WORDS := Mn.con_tup (He.glo_ok X G (c.t.d.fact 26)) (He.ba c.more).2 rfl rfl
  a_falls_row := Mn.fld_ok rfl (He.cls_ok (c.t.d.fact 28)) (He.noat_ok (c.t.d.fact 30))
  a_gives_row := Mn.fld_ok rfl (He.cls_ok (c.t.d.fact 28)) (He.noat_ok (c.t.d.fact 31))
  a_maker_names := Mn.fld_ok rfl (He.cls_ok (c.t.d.fact 28)) (He.noat_ok (c.t.d.fact 32))
  a_makers_row := Mn.fld_ok rfl (He.cls_ok (c.t.d.fact 28)) (He.noat_ok (c.t.d.fact 33))
  a_rights_row := Mn.fld_ok rfl (He.cls_ok (c.t.d.fact 28)) (He.noat_ok (c.t.d.fact 34))
  a_takes_row := Mn.fld_ok rfl (He.cls_ok (c.t.d.fact 28)) (He.noat_ok (c.t.d.fact 35))
  cA := rfl
  m_Ground := He.glo_ok X G (c.t.d.fact 27)
  mk_Ground := He.mkr_ok (c.t.d.fact 29)
  k_Ground := He.cls_ok (c.t.d.fact 28)
  f_is_told_name := c.t.d.def_ 0 (d := D_is_told_name)
  m_is_told_name := He.glo_ok X G (c.t.d.fact 36)
  f_Ground_is_kind := c.t.d.def_ 1 (d := D_Ground_is_kind)
  t_Ground_is_kind := He.meth_ok (c.t.d.fact 37)
  f_Ground_is_maker := c.t.d.def_ 2 (d := D_Ground_is_maker)
  t_Ground_is_maker := He.meth_ok (c.t.d.fact 38)
  f_Ground_is_work := c.t.d.def_ 3 (d := D_Ground_is_work)
  t_Ground_is_work := He.meth_ok (c.t.d.fact 39)
  f_Ground_takes := c.t.d.def_ 4 (d := D_Ground_takes)
  t_Ground_takes := He.meth_ok (c.t.d.fact 40)
  f_Ground_gives := c.t.d.def_ 5 (d := D_Ground_gives)
  t_Ground_gives := He.meth_ok (c.t.d.fact 41)
  f_kind_or_none := c.t.d.def_ 6 (d := D_kind_or_none)
  m_kind_or_none := He.glo_ok X G (c.t.d.fact 42)
  f_kind_of := c.t.d.def_ 7 (d := D_kind_of)
  m_kind_of := He.glo_ok X G (c.t.d.fact 43)
  f_things_within := c.t.d.def_ 8 (d := D_things_within)
  m_things_within := He.glo_ok X G (c.t.d.fact 44)
  f_all_within := c.t.d.def_ 9 (d := D_all_within)
  m_all_within := He.glo_ok X G (c.t.d.fact 45)
  f_signs_of := c.t.d.def_ 10 (d := D_signs_of)
  m_signs_of := He.glo_ok X G (c.t.d.fact 46)
  f_names_of := c.t.d.def_ 11 (d := D_names_of)
  m_names_of := He.glo_ok X G (c.t.d.fact 47)
  f_fits_at := c.t.d.def_ 12 (d := D_fits_at)
  m_fits_at := He.glo_ok X G (c.t.d.fact 48)
  f_fitting := c.t.d.def_ 13 (d := D_fitting)
  m_fitting := He.glo_ok X G (c.t.d.fact 49)
  f_filled := c.t.d.def_ 14 (d := D_filled)
  m_filled := He.glo_ok X G (c.t.d.fact 50)
  f_need := c.t.d.def_ 15 (d := D_need)
  m_need := He.glo_ok X G (c.t.d.fact 51)
  f_is_list_of_texts := c.t.d.def_ 16 (d := D_is_list_of_texts)
  m_is_list_of_texts := He.glo_ok X G (c.t.d.fact 52)
  f_Ground_is_new := c.t.d.def_ 17 (d := D_Ground_is_new)
  t_Ground_is_new := He.meth_ok (c.t.d.fact 53)
  f_Ground_is_open := c.t.d.def_ 18 (d := D_Ground_is_open)
  t_Ground_is_open := He.meth_ok (c.t.d.fact 54)
  f_Ground_check_right := c.t.d.def_ 19 (d := D_Ground_check_right)
  t_Ground_check_right := He.meth_ok (c.t.d.fact 55)
  f_Ground_check_falling := c.t.d.def_ 20 (d := D_Ground_check_falling)
  t_Ground_check_falling := He.meth_ok (c.t.d.fact 56)
  f_Ground_add_kind := c.t.d.def_ 21 (d := D_Ground_add_kind)
  t_Ground_add_kind := He.meth_ok (c.t.d.fact 57)
  f_Ground_add_work := c.t.d.def_ 22 (d := D_Ground_add_work)
  t_Ground_add_work := He.meth_ok (c.t.d.fact 58)
  f_Ground___init__ := c.t.d.def_ 23 (d := D_Ground___init__)
  f__law_cell_at := c.t.d.def_ 24 (d := D__law_cell_at)
  m__law_cell_at := He.glo_ok X G (c.t.d.fact 59)
  f__law_mix := c.t.d.def_ 25 (d := D__law_mix)
  m__law_mix := He.glo_ok X G (c.t.d.fact 60)
  f__law_source := c.t.d.def_ 26 (d := D__law_source)
  m__law_source := He.glo_ok X G (c.t.d.fact 61)
  f__law_take := c.t.d.def_ 27 (d := D__law_take)
  m__law_take := He.glo_ok X G (c.t.d.fact 62)
  f__law_kinds := c.t.d.def_ 28 (d := D__law_kinds)
  m__law_kinds := He.glo_ok X G (c.t.d.fact 63)
  f__law_makers := c.t.d.def_ 29 (d := D__law_makers)
  m__law_makers := He.glo_ok X G (c.t.d.fact 64)
  f__law_makes := c.t.d.def_ 30 (d := D__law_makes)
  m__law_makes := He.glo_ok X G (c.t.d.fact 65)
  f__law_atoms := c.t.d.def_ 31 (d := D__law_atoms)
  m__law_atoms := He.glo_ok X G (c.t.d.fact 66)
  f__law_own := c.t.d.def_ 32 (d := D__law_own)
  m__law_own := He.glo_ok X G (c.t.d.fact 67)
  f__law_term := c.t.d.def_ 33 (d := D__law_term)
  m__law_term := He.glo_ok X G (c.t.d.fact 68)
  f__law_work := c.t.d.def_ 34 (d := D__law_work)
  m__law_work := He.glo_ok X G (c.t.d.fact 69)
  f__law_works := c.t.d.def_ 35 (d := D__law_works)
  m__law_works := He.glo_ok X G (c.t.d.fact 70)
  f__law_ground := c.t.d.def_ 36 (d := D__law_ground)
  m__law_ground := He.glo_ok X G (c.t.d.fact 71)
  f__law_names := c.t.d.def_ 37 (d := D__law_names)
  m__law_names := He.glo_ok X G (c.t.d.fact 72)
  f__law_slots := c.t.d.def_ 38 (d := D__law_slots)
  m__law_slots := He.glo_ok X G (c.t.d.fact 73)
  f__law_bound := c.t.d.def_ 39 (d := D__law_bound)
  m__law_bound := He.glo_ok X G (c.t.d.fact 74)
  f__law_put := c.t.d.def_ 40 (d := D__law_put)
  m__law_put := He.glo_ok X G (c.t.d.fact 75)
  f__law_all_parts := c.t.d.def_ 41 (d := D__law_all_parts)
  m__law_all_parts := He.glo_ok X G (c.t.d.fact 76)
  f__law_left := c.t.d.def_ 42 (d := D__law_left)
  m__law_left := He.glo_ok X G (c.t.d.fact 77)
  f__law_rule := c.t.d.def_ 43 (d := D__law_rule)
  m__law_rule := He.glo_ok X G (c.t.d.fact 78)
  f__law_rules_of := c.t.d.def_ 44 (d := D__law_rules_of)
  m__law_rules_of := He.glo_ok X G (c.t.d.fact 79)
  f__law_fits := c.t.d.def_ 45 (d := D__law_fits)
  m__law_fits := He.glo_ok X G (c.t.d.fact 80)
  f__law_gives := c.t.d.def_ 46 (d := D__law_gives)
  m__law_gives := He.glo_ok X G (c.t.d.fact 81)
  f__law_kind_of := c.t.d.def_ 47 (d := D__law_kind_of)
  m__law_kind_of := He.glo_ok X G (c.t.d.fact 82)
  f__law_drawn_rule := c.t.d.def_ 48 (d := D__law_drawn_rule)
  m__law_drawn_rule := He.glo_ok X G (c.t.d.fact 83)
  f__law_spoilt := c.t.d.def_ 49 (d := D__law_spoilt)
  m__law_spoilt := He.glo_ok X G (c.t.d.fact 84)
  f__law_right_told := c.t.d.def_ 50 (d := D__law_right_told)
  m__law_right_told := He.glo_ok X G (c.t.d.fact 85)
  f_law := c.t.d.def_ 51 (d := D_law)
  m_law := He.glo_ok X G (c.t.d.fact 86)
end K72
end
section
set_option Elab.async false
set_option linter.all false
set_option maxRecDepth 100000
set_option maxHeartbeats 0
namespace K72
open PySem PySem.W PySem.Calls PySem.Spec L2 Mn PyProof.Rows
theorem law_end (pure : ∀ ns : List Int, ns.length ≤ 63 → ∃ h, f_law [.scr ns] 0 [] = .ok (.bl true) h) : lw.Holds := by
  w_on; o_law
  refine HandSHeadRun.head_any (r := R) (q := PySem.W.view R.prog [59]) (H := hk) (ob := ob) (M := 4000) (loose := loose) (d := HandSHeadRun.topDef R.prog 59) (kwd := []) ob_eq (by kernel_rfl) (fun s => by kernel_rfl) run (by kernel_rfl) (by kernel_rfl) (by kernel_rfl) (by rfl) (by first | assumption | decide +kernel) (by decide +kernel) ⟨rfl, rfl, rfl, rfl, rfl, by decide +kernel⟩ ?hw ?hc
  case hw => w_witness2
  case hc =>
    refine Mn.walk_m (l := lw) (n := 63) (k := 24) (x := "script") rfl (by decide) (by kernel_rfl) ⟨rfl, by decide, by decide⟩ fun w mg fa h Y G hg => ?_
    obtain ⟨K, KX, c⟩ := Y
    have e : (HandSHeadRun.topDef R.prog 59).name = ("law" : PySem.Str) := by kernel_rfl
    rw [e] at hg
    obtain ⟨fd, F⟩ := c.t.d.def_ 51 (d := D_law)
    have hf := hg.symm.trans (He.glo_ok KX G (c.t.d.fact 86 (f := .glo "law") rfl))
    cases hf
    refine ⟨K, fd, f_law, KX, (He.ba (He.ba (He.ba c.more).1).1).1, fun s v => F.bindsA (ps := ["script"]) (fun _ _ _ _ _ _ us hl => match us, hl with | [_], _ => rfl) s [v] rfl, pure, fun base _ _ => ?_⟩
    exact fn_ok (T := Mn.ttOf lw.prog w K mg base) F sc_law (s_law (fx KX G c))
end K72
end
section
set_option Elab.async false
set_option linter.all false
set_option maxRecDepth 100000
namespace K72
open PySem Mn
local macro_rules
  | `(tactic| simp_arith [$ls,*]) => `(tactic| simp only [sat_ok, sat_bad, sat_bind, sat_C, sat_nil, sat_cons, sat_var, sat_tup, sat_lst, sat_mkL, sat_op2, sat_opL, sat_call, sat_att, sat_meth, sat_tv, sat_and, sat_or, sat_not, sat_yes, sat_andV, sat_orV, sat_notV, sat_ifE, sat_seq, sat_dnx, sat_ret, sat_retN, sat_exp, sat_set, sat_if, sat_never, sat_unp, sat_lset, sat_dput, sat_fset, sat_aug, sat_for, sat_comp, sat_fI, sat_sub, sat_div, sat_mod, sat_addI, sat_mulI, sat_addL, sat_addT, sat_addS, sat_ix, sat_in, sat_is, sat_isnot, sat_len, sat_pow, sat_bm, sat_sl, sat_part, sat_nopart, sat_eq, sat_ne, sat_seqI, seqI_lst, seqI_tup, ix_tup, ix_lst, ix_scr, atI_0, atI_1, atI_2, atI_3, atI_4, dat_str, dat_int, dat_non, dat_nil, eq_str, eq_int, PV.isN, fnE, List.map_cons, List.map_nil, List.length_cons, List.length_nil, Nat.reduceAdd, Nat.reduceSub, List.reduceReplicate, List.cons_append, List.nil_append, List.append_nil, List.getElem?_cons_succ, List.getElem?_cons_zero, List.set_cons_succ, List.set_cons_zero, Option.some.injEq, PV.bl.injEq, PV.int.injEq, exists_eq_left', exists_eq_left, decide_eq_true_eq, Bool.not_eq_true', Nat.reduceLeDiff, true_and, and_true, Bool.false_eq_true, if_true, if_false, gt_iff_lt, ge_iff_le, reduceCtorEq, false_and, and_false, exists_false, Bool.not_true, Bool.not_false, $ls,*])
def mix (n : Int) : Int := ((n % 2147483647 * 48271 + 69621) % 2147483647) * ((n % 2147483647 * 48271 + 69621) % 2147483647) % 2147483629
theorem mix_nn (n : Int) : 0 ≤ mix n := by unfold mix; omega
theorem cMul_small {i j : Int} (h : -(2 ^ 64) < j) (h2 : j < 2 ^ 64) : cMul i j = true := by unfold cMul; have h3 := h; have h4 := h2; simp at h3 h4; simp [h3, h4]
theorem mix_eq (n : Int) (b : Nat) (h : AH) : f__law_mix [.int n] b h = .ok (.int (mix n)) h := by
  apply sat_eq_of
  unfold f__law_mix
  rw [sat_fn]
  unfold d__law_mix
  simp_arith []
  refine ⟨by decide, cMul_small (by decide) (by decide), by decide, cMul_small (by omega) (by omega), by decide, ?_⟩
  rw [popS_same rfl]
  exact ⟨rfl, rfl⟩
def src (a c : Int) : AO := .lst [.int a, .int c]
theorem take_ok {r : Nat} {m a c : Int} {b : Nat} {h : AH} (e : h[r]? = some (src a c)) (hm : 0 < m) (hm2 : m < 1073741824) (ha : 0 ≤ a) (hc : 0 ≤ c) : (f__law_take [.ref r, .int m] b h).sat fun v h' => ∃ d a' c', v = .int d ∧ 0 ≤ d ∧ d < m ∧ 0 ≤ a' ∧ 0 ≤ c' ∧ h' = h.set r (src a' c') := by
  have hr : r < h.length := (List.getElem?_eq_some_iff.mp e).1
  have e0 := ix_ref (h := h) e 0
  have e1 := ix_ref (h := h) e 1
  unfold f__law_take
  rw [sat_fn]
  unfold d__law_take
  simp_arith [e0, e1]
  by_cases z : 0 < a
  · simp only [z, if_true]
    refine ⟨hm, ⟨hm, hm2⟩, _, lset_ref e (okW_pure (v := .int (a / m)) rfl) 0 (by simp), ?_⟩
    rw [popS_same (by simp)]
    exact ⟨a % m, a / m, c, rfl, Int.emod_nonneg _ (by omega), Int.emod_lt_of_pos _ hm, Int.ediv_nonneg ha (by omega), hc, rfl⟩
  · simp only [z, if_false, eq_sat (mix_eq _ _ _)]
    refine ⟨_, lset_ref e (okW_pure (v := .int (mix (c + 1))) rfl) 1 (by simp), ?_⟩
    have e' : (h.set r (.lst [PV.int a, .int (mix (c + 1))]))[r]? = some (.lst [PV.int a, .int (mix (c + 1))]) := List.getElem?_set_self hr
    have e2 := ix_ref e' 1
    simp_arith [e2]
    refine ⟨by decide, hm, ?_⟩
    rw [popS_same (by simp)]
    exact ⟨_, a, mix (c + 1), rfl, Int.emod_nonneg _ (by omega), Int.emod_lt_of_pos _ hm, ha, mix_nn _, rfl⟩
theorem cell_ok (ns : List Int) (k : Nat) (b : Nat) (h : AH) : ∃ c : Int, f__law_cell_at [.scr ns, .int k] b h = .ok (.int c) h := by
  by_cases z : k < ns.length
  · refine ⟨ns[k], sat_eq_of ?_⟩
    unfold f__law_cell_at
    rw [sat_fn]
    unfold d__law_cell_at
    simp_arith []
    refine ⟨ns.length, rfl, ?_⟩
    have z' : (k : Int) < (ns.length : Nat) := by omega
    simp only [z', if_true]
    refine ⟨.int ns[k], ?_, ?_⟩
    · rw [atI_nat, List.getElem?_eq_getElem z]; rfl
    · rw [popS_same rfl]; exact ⟨rfl, rfl⟩
  · refine ⟨0, sat_eq_of ?_⟩
    unfold f__law_cell_at
    rw [sat_fn]
    unfold d__law_cell_at
    simp_arith []
    refine ⟨ns.length, rfl, ?_⟩
    have z' : ¬ (k : Int) < (ns.length : Nat) := by omega
    simp only [z', if_false]
    rw [popS_same rfl]; exact ⟨rfl, rfl⟩
theorem source_ok (ns : List Int) (k : Nat) (hk : k < 100) (b : Nat) (h : AH) : (f__law_source [.scr ns, .int k] b h).sat fun v h' => ∃ a c : Int, v = .ref h.length ∧ 0 ≤ a ∧ 0 ≤ c ∧ h' = h ++ [src a c] := by
  obtain ⟨c, e⟩ := cell_ok ns k b h
  unfold f__law_source
  rw [sat_fn0]
  unfold d__law_source
  simp_arith []
  simp only [eq_sat e]
  simp_arith []
  refine ⟨by decide, ?_⟩
  by_cases z : (10 : Int) ^ (18 : Int).toNat ≤ c
  · simp only [z, if_true, eq_sat (mix_eq _ _ _)]
    simp_arith []
    have p18 : (0 : Int) ≤ 10 ^ (18 : Int).toNat := by decide
    exact ⟨c, mix (c + k), Int.le_trans p18 z, mix_nn _, rfl⟩
  · simp only [z, if_false]
    refine ⟨cMul_small (by omega) (by omega), ?_⟩
    simp_arith [eq_sat (mix_eq _ _ _)]
    exact ⟨0, mix _, by decide, mix_nn _, rfl⟩
end K72
end
section
set_option Elab.async false
set_option linter.all false
set_option maxRecDepth 100000
namespace K72
open PySem Mn
local macro_rules
  | `(tactic| simp_arith [$ls,*]) => `(tactic| simp only [sat_ok, sat_bad, sat_bind, sat_C, sat_nil, sat_cons, sat_var, sat_tup, sat_lst, sat_mkL, sat_op2, sat_opL, sat_call, sat_att, sat_meth, sat_tv, sat_and, sat_or, sat_not, sat_yes, sat_andV, sat_orV, sat_notV, sat_ifE, sat_seq, sat_dnx, sat_ret, sat_retN, sat_exp, sat_set, sat_if, sat_never, sat_unp, sat_lset, sat_dput, sat_fset, sat_aug, sat_for, sat_comp, sat_fI, sat_sub, sat_div, sat_mod, sat_addI, sat_mulI, sat_addL, sat_addT, sat_addS, sat_ix, sat_in, sat_is, sat_isnot, sat_len, sat_pow, sat_bm, sat_sl, sat_part, sat_nopart, sat_eq, sat_ne, sat_seqI, seqI_lst, seqI_tup, ix_tup, ix_lst, ix_scr, atI_0, atI_1, atI_2, atI_3, atI_4, dat_str, dat_int, dat_non, dat_nil, eq_str, eq_int, PV.isN, fnE, List.map_cons, List.map_nil, List.length_cons, List.length_nil, Nat.reduceAdd, Nat.reduceSub, List.reduceReplicate, List.cons_append, List.nil_append, List.append_nil, List.getElem?_cons_succ, List.getElem?_cons_zero, List.set_cons_succ, List.set_cons_zero, Option.some.injEq, PV.bl.injEq, PV.int.injEq, exists_eq_left', exists_eq_left, decide_eq_true_eq, Bool.not_eq_true', Nat.reduceLeDiff, true_and, and_true, Bool.false_eq_true, if_true, if_false, gt_iff_lt, ge_iff_le, reduceCtorEq, false_and, and_false, exists_false, Bool.not_true, Bool.not_false, $ls,*])
/-! ## terms -/
inductive Tm where
  | nm (x k : Str)
  | mk (f : Str) (ps : List Tm)
  | bd (n : Nat)
mutual
def Tm.enc : Tm → PV
  | .nm x k => .tup [.str "name", .str x, .str k]
  | .mk f ps => .tup [.str "made", .str f, .tup (Tm.encs ps)]
  | .bd n => .tup [.str "bound", .int n]
def Tm.encs : List Tm → List PV
  | [] => []
  | t :: ts => t.enc :: Tm.encs ts
end
theorem encs_map : ∀ ts : List Tm, Tm.encs ts = ts.map Tm.enc
  | [] => rfl
  | t :: ts => by rw [Tm.encs, encs_map ts]; rfl
theorem Tm.ind {P : Tm → Prop} (nm : ∀ x k, P (.nm x k)) (mk : ∀ f ps, (∀ p ∈ ps, P p) → P (.mk f ps)) (bd : ∀ n, P (.bd n)) : ∀ t, P t := by
  intro t
  refine Tm.rec (motive_1 := P) (motive_2 := fun ps => ∀ p ∈ ps, P p) nm (fun f ps h => mk f ps h) bd ?_ ?_ t
  · intro p hp; cases hp
  · intro p ps h1 h2 q hq
    rcases List.mem_cons.mp hq with e | hq
    · rw [e]; exact h1
    · exact h2 q hq
mutual
def Tm.dep : Tm → Nat
  | .mk _ ps => Tm.deps ps + 1
  | _ => 1
def Tm.deps : List Tm → Nat
  | [] => 0
  | t :: ts => max t.dep (Tm.deps ts)
end
theorem deps_le {n : Nat} : ∀ {ts : List Tm}, Tm.deps ts ≤ n ↔ ∀ t ∈ ts, t.dep ≤ n
  | [] => by simp [Tm.deps]
  | t :: ts => by simp only [Tm.deps, List.mem_cons, forall_eq_or_imp, Nat.max_le, deps_le (ts := ts)]
mutual
def Tm.size : Tm → Nat
  | .mk _ ps => Tm.sizes ps + 1
  | _ => 1
def Tm.sizes : List Tm → Nat
  | [] => 0
  | t :: ts => t.size + Tm.sizes ts
end
/-! encodings are data, alike only if the same -/
theorem enc_dat : ∀ t : Tm, t.enc.dat = true := by
  intro t
  induction t using Tm.ind with
  | nm x k => rfl
  | bd n => rfl
  | mk f ps ih =>
    have : PV.dats (Tm.encs ps) = true := PV.dats_iff.mpr fun x hx => by
      rw [encs_map] at hx
      obtain ⟨p, hp, e⟩ := List.mem_map.mp hx
      rw [← e]; exact ih p hp
    simp [Tm.enc, PV.dat, PV.dats, this]
theorem encs_dat (ts : List Tm) : PV.dats (Tm.encs ts) = true := PV.dats_iff.mpr fun x hx => by
  rw [encs_map] at hx
  obtain ⟨p, hp, e⟩ := List.mem_map.mp hx
  rw [← e]; exact enc_dat p
theorem low_dat : ∀ (v : PV), v.dat = true → ∀ n, v.low n = true := by
  intro v
  induction v using PV.ind with
  | tup xs ih => simp only [PV.dat, PV.low, PV.dats_iff, PV.lowL_iff]; exact fun q n x hx => ih x hx (q x hx) n
  | lst xs ih => simp only [PV.dat, PV.low, PV.dats_iff, PV.lowL_iff]; exact fun q n x hx => ih x hx (q x hx) n
  | _ => intro h n; first | rfl | cases h
mutual
theorem eqv_enc : ∀ t u : Tm, t.enc.eq u.enc = true → t = u
  | .nm x k, u, h => by
    cases u <;> simp [PV.eq, Tm.enc, PV.toD, PV.toDs, PyData.eqv, PyData.eqvAll] at h ⊢
    exact h
  | .bd n, u, h => by
    cases u <;> simp [PV.eq, Tm.enc, PV.toD, PV.toDs, PyData.eqv, PyData.eqvAll] at h ⊢
    omega
  | .mk f ps, u, h => by
    cases u with
    | mk g qs =>
      simp [PV.eq, Tm.enc, PV.toD, PV.toDs, PyData.eqv, PyData.eqvAll] at h
      rw [h.1, eqv_encs ps qs h.2]
    | _ => simp [PV.eq, Tm.enc, PV.toD, PV.toDs, PyData.eqv, PyData.eqvAll] at h
theorem eqv_encs : ∀ ts us : List Tm, PyData.eqvAll (PV.toDs (Tm.encs ts)) (PV.toDs (Tm.encs us)) = true → ts = us
  | [], [], _ => rfl
  | [], _ :: _, h => by simp [Tm.encs, PV.toDs, PyData.eqvAll] at h
  | _ :: _, [], h => by simp [Tm.encs, PV.toDs, PyData.eqvAll] at h
  | t :: ts, u :: us, h => by
    simp only [Tm.encs, PV.toDs, PyData.eqvAll, Bool.and_eq_true] at h
    rw [eqv_enc t u h.1, eqv_encs ts us h.2]
end
mutual
theorem eqv_self : ∀ t : Tm, t.enc.eq t.enc = true
  | .nm x k => by simp [PV.eq, Tm.enc, PV.toD, PV.toDs, PyData.eqv, PyData.eqvAll]
  | .bd n => by simp [PV.eq, Tm.enc, PV.toD, PV.toDs, PyData.eqv, PyData.eqvAll]
  | .mk f ps => by
    have := eqvs_self ps
    simp [PV.eq, Tm.enc, PV.toD, PV.toDs, PyData.eqv, PyData.eqvAll, this]
theorem eqvs_self : ∀ ts : List Tm, PyData.eqvAll (PV.toDs (Tm.encs ts)) (PV.toDs (Tm.encs ts)) = true
  | [] => by simp [Tm.encs, PV.toDs, PyData.eqvAll]
  | t :: ts => by
    simp only [Tm.encs, PV.toDs, PyData.eqvAll, Bool.and_eq_true]
    exact ⟨eqv_self t, eqvs_self ts⟩
end
theorem eq_enc (t u : Tm) : (t.enc.eq u.enc = true) ↔ t = u := ⟨eqv_enc t u, fun e => by rw [e]; exact eqv_self u⟩
end K72
end
section
set_option Elab.async false
set_option linter.all false
set_option maxRecDepth 100000
namespace K72
open PySem Mn
local macro_rules
  | `(tactic| simp_arith [$ls,*]) => `(tactic| simp only [sat_ok, sat_bad, sat_bind, sat_C, sat_nil, sat_cons, sat_var, sat_tup, sat_lst, sat_mkL, sat_op2, sat_opL, sat_call, sat_att, sat_meth, sat_tv, sat_and, sat_or, sat_not, sat_yes, sat_andV, sat_orV, sat_notV, sat_ifE, sat_seq, sat_dnx, sat_ret, sat_retN, sat_exp, sat_set, sat_if, sat_never, sat_unp, sat_lset, sat_dput, sat_fset, sat_aug, sat_for, sat_comp, sat_fI, sat_sub, sat_div, sat_mod, sat_addI, sat_mulI, sat_addL, sat_addT, sat_addS, sat_ix, sat_in, sat_is, sat_isnot, sat_len, sat_pow, sat_bm, sat_sl, sat_part, sat_nopart, sat_eq, sat_ne, sat_seqI, seqI_lst, seqI_tup, ix_tup, ix_lst, ix_scr, atI_0, atI_1, atI_2, atI_3, atI_4, dat_str, dat_int, dat_non, dat_nil, eq_str, eq_int, PV.isN, fnE, List.map_cons, List.map_nil, List.length_cons, List.length_nil, Nat.reduceAdd, Nat.reduceSub, List.reduceReplicate, List.cons_append, List.nil_append, List.append_nil, List.getElem?_cons_succ, List.getElem?_cons_zero, List.set_cons_succ, List.set_cons_zero, Option.some.injEq, PV.bl.injEq, PV.int.injEq, exists_eq_left', exists_eq_left, decide_eq_true_eq, Bool.not_eq_true', Nat.reduceLeDiff, true_and, and_true, Bool.false_eq_true, if_true, if_false, gt_iff_lt, ge_iff_le, reduceCtorEq, false_and, and_false, exists_false, Bool.not_true, Bool.not_false, $ls,*])
def kv (k : Str) (ms : List (Str × List Str)) : PV := .tup [.str k, .lst (ms.map fun m => .tup [.str m.1, .lst (m.2.map .str)])]
def mks : Str → List (Str × List Str) := fun k => if k = "bit" then [("off", []), ("on", [])] else if k = "num" then [("zero", []), ("next", ["num"])] else if k = "row" then [("none", []), ("put", ["num", "row"])] else []
def kindsV : PV := .lst [kv "bit" (mks "bit"), kv "num" (mks "num"), kv "row" (mks "row"), kv "thing" (mks "thing")]
theorem kinds_eq (b : Nat) (h : AH) : f__law_kinds [] b h = .ok kindsV h := by
  apply sat_eq_of
  unfold f__law_kinds
  rw [sat_fn]
  unfold d__law_kinds
  simp_arith []
  rw [popS_same rfl]
  exact ⟨rfl, rfl⟩
def Kd (k : Str) : Prop := k = "bit" ∨ k = "num" ∨ k = "row" ∨ k = "thing"
def mksV (k : Str) : PV := .lst ((mks k).map fun m => .tup [.str m.1, .lst (m.2.map .str)])
theorem makers_eq {k : Str} (hk : Kd k) (b : Nat) (h : AH) : f__law_makers [.str k] b h = .ok (mksV k) h := by
  apply sat_eq_of
  unfold f__law_makers
  rw [sat_fn]
  unfold d__law_makers
  simp_arith [eq_sat (kinds_eq _ _)]
  have e : ∀ b, fDictOf false [kindsV] b h = .ok (.dic [.inr "bit", .inr "num", .inr "row", .inr "thing"] [mksV "bit", mksV "num", mksV "row", mksV "thing"]) h := fun b => by rfl
  simp only [eq_sat (e _), sat_ix]
  rcases hk with rfl | rfl | rfl | rfl <;> (refine ⟨_, rfl, ?_⟩; rw [popS_same rfl]; exact ⟨rfl, rfl⟩)
/-! ## tolds -/
structure Told where
  f : Str
  tk : List Str
  gv : Str
  at_ : Option Nat
  rs : List Tm
def atV : Option Nat → PV
  | none => .non
  | some n => .int n
def Told.enc (w : Told) : PV := .tup [.str w.f, .lst (w.tk.map .str), .str w.gv, atV w.at_, .lst (w.rs.map Tm.enc)]
/-- what is made of what: name, takes, gives -/
abbrev Sig := Str × List Str × Str
def sigV (s : Sig) : PV := .tup [.str s.1, .lst (s.2.1.map .str), .str s.2.2]
def Told.sig (w : Told) : Sig := (w.f, w.tk, w.gv)
def mk2 : List Sig := [("next", ["num"], "num"), ("put", ["num", "row"], "row")]
theorem makes_eq (ws : List Told) (hz : ws.length ≤ 100) (b : Nat) (h : AH) : f__law_makes [.lst (ws.map Told.enc)] b h = .ok (.lst ((mk2 ++ ws.map Told.sig).map sigV)) h := by
  apply sat_eq_of
  unfold f__law_makes
  rw [sat_fn]
  unfold d__law_makes
  simp_arith []
  refine compL_map _ _ _ _ (fun v => match v with | .tup (x :: y :: z :: _) => .tup [x, y, z] | v => v) (fun x hx => ?_) ?_
  · obtain ⟨w, hw, rfl⟩ := List.mem_map.mp hx
    refine ⟨_, rfl, ⟨rfl, rfl⟩, ?_⟩
    unfold Told.enc
    simp_arith [wipeE]
  · refine ⟨?_, ?_⟩
    · simp; omega
    · rw [popS_same rfl]
      refine ⟨?_, rfl⟩
      simp [mk2, sigV, Told.sig, Told.enc, Function.comp_def]
/-! ## atoms -/
abbrev Nm := Str × Str
def nmV (n : Nm) : PV := (Tm.nm n.1 n.2).enc
def atoms (k : Str) (ns : List Nm) : List Tm :=
  let s := (ns.filter fun n => n.2 = k).map (fun n => Tm.nm n.1 n.2) ++ ((mks k).filter fun m => m.2 = []).map fun m => Tm.mk m.1 []
  if s = [] then [.nm "t" k] else s
theorem atoms_ne (k : Str) (ns : List Nm) : atoms k ns ≠ [] := by
  unfold atoms
  simp only
  split
  · simp
  · assumption
theorem lst_eq_nil (xs : List PV) : PV.eq (.lst xs) (.lst []) = decide (xs = []) := by
  cases xs <;> simp [PV.eq, PV.toD, PV.toDs, PyData.eqv, PyData.eqvAll]
theorem dat_strs {h : AH} (xs : List Str) : datOf h (.lst (xs.map .str)) = some (.lst (xs.map .str)) := by
  have d : PV.dats (xs.map .str) = true := PV.dats_iff.mpr fun x hx => by
    obtain ⟨s, _, rfl⟩ := List.mem_map.mp hx
    rfl
  have p : ∀ ys : List Str, PyData.depthAll (PV.toDs (ys.map .str)) ≤ 1 := fun ys => by
    induction ys with
    | nil => decide
    | cons y ys ih => simp [PV.toDs, PV.toD, PyData.depthAll, PyData.depth] at ih ⊢; omega
  have q := p xs
  unfold datOf
  simp [PV.dat, d, PV.toD, PyData.depth, Nat.ble_eq]
  omega
theorem nilstr (xs : List Str) : (xs.map PV.str = []) ↔ xs = [] := by simp
end K72
end
section
set_option Elab.async false
set_option linter.all false
set_option maxRecDepth 100000
namespace K72
open PySem Mn
local macro_rules
  | `(tactic| simp_arith [$ls,*]) => `(tactic| simp only [sat_ok, sat_bad, sat_bind, sat_C, sat_nil, sat_cons, sat_var, sat_tup, sat_lst, sat_mkL, sat_op2, sat_opL, sat_call, sat_att, sat_meth, sat_tv, sat_and, sat_or, sat_not, sat_yes, sat_andV, sat_orV, sat_notV, sat_ifE, sat_seq, sat_dnx, sat_ret, sat_retN, sat_exp, sat_set, sat_if, sat_never, sat_unp, sat_lset, sat_dput, sat_fset, sat_aug, sat_for, sat_comp, sat_fI, sat_sub, sat_div, sat_mod, sat_addI, sat_mulI, sat_addL, sat_addT, sat_addS, sat_ix, sat_in, sat_is, sat_isnot, sat_len, sat_pow, sat_bm, sat_sl, sat_part, sat_nopart, sat_eq, sat_ne, sat_seqI, seqI_lst, seqI_tup, ix_tup, ix_lst, ix_scr, atI_0, atI_1, atI_2, atI_3, atI_4, dat_str, dat_int, dat_non, dat_nil, eq_str, eq_int, PV.isN, fnE, List.map_cons, List.map_nil, List.length_cons, List.length_nil, Nat.reduceAdd, Nat.reduceSub, List.reduceReplicate, List.cons_append, List.nil_append, List.append_nil, List.getElem?_cons_succ, List.getElem?_cons_zero, List.set_cons_succ, List.set_cons_zero, Option.some.injEq, PV.bl.injEq, PV.int.injEq, exists_eq_left', exists_eq_left, decide_eq_true_eq, Bool.not_eq_true', Nat.reduceLeDiff, true_and, and_true, Bool.false_eq_true, if_true, if_false, gt_iff_lt, ge_iff_le, reduceCtorEq, false_and, and_false, exists_false, Bool.not_true, Bool.not_false, $ls,*])
mutual
theorem enc_depth : ∀ t : Tm, t.enc.toD.depth ≤ 2 * t.dep
  | .nm x k => by simp [Tm.enc, PV.toD, PV.toDs, PyData.depth, PyData.depthAll, Tm.dep]
  | .bd n => by simp [Tm.enc, PV.toD, PV.toDs, PyData.depth, PyData.depthAll, Tm.dep]
  | .mk f ps => by
    have := encs_depth ps
    simp [Tm.enc, PV.toD, PV.toDs, PyData.depth, PyData.depthAll, Tm.dep]
    omega
theorem encs_depth : ∀ ts : List Tm, PyData.depthAll (PV.toDs (Tm.encs ts)) ≤ 2 * Tm.deps ts
  | [] => by simp [Tm.encs, PV.toDs, PyData.depthAll]
  | t :: ts => by
    have h1 := enc_depth t
    have h2 := encs_depth ts
    simp only [Tm.encs, PV.toDs, PyData.depthAll, Tm.deps]
    omega
end
theorem dat_tm {h : AH} {t : Tm} (d : t.dep ≤ 50) : datOf h t.enc = some t.enc := by
  have := enc_depth t
  unfold datOf
  rw [if_pos (enc_dat t), if_pos (by rw [Nat.ble_eq]; omega)]
theorem dat_tms {h : AH} {ts : List Tm} (d : Tm.deps ts ≤ 50) : datOf h (.lst (ts.map Tm.enc)) = some (.lst (ts.map Tm.enc)) := by
  have := encs_depth ts
  have e := encs_dat ts
  rw [encs_map] at this e
  unfold datOf
  rw [if_pos (show PV.dat (.lst _) = true from e), if_pos (by rw [Nat.ble_eq]; simp only [PV.toD, PyData.depth]; omega)]
theorem atoms_dep (k : Str) (ns : List Nm) : ∀ t ∈ atoms k ns, t.dep = 1 := by
  intro t ht
  unfold atoms at ht
  simp only at ht
  split at ht
  · rw [List.mem_singleton.mp ht]; rfl
  · rcases List.mem_append.mp ht with z | z
    · obtain ⟨n, _, rfl⟩ := List.mem_map.mp z; rfl
    · obtain ⟨n, _, rfl⟩ := List.mem_map.mp z; rfl
theorem mks_len (k : Str) : (mks k).length ≤ 2 := by
  unfold mks
  repeat (split; · decide)
  decide
theorem atoms_eq {k : Str} (hk : Kd k) (ns : List Nm) (hz : ns.length ≤ 100) (b : Nat) (h : AH) : f__law_atoms [.str k, .lst (ns.map nmV)] b h = .ok (.lst ((atoms k ns).map Tm.enc)) h := by
  apply sat_eq_of
  unfold f__law_atoms
  rw [sat_fn]
  unfold d__law_atoms
  simp_arith []
  refine compL_typ _ _ _ ns nmV (fun n => decide (n.2 = k)) nmV (fun n hn => ?_) ?_
  · refine ⟨_, rfl, ?_, fun _ => ?_⟩
    · unfold nmV Tm.enc
      simp_arith [wipeE]
    · simp_arith [wipeE]
  · simp_arith [eq_sat (makers_eq hk _ _), mksV]
    refine compL_typ _ _ _ (mks k) _ (fun m => decide (m.2 = [])) (fun m => (Tm.mk m.1 []).enc) (fun m hm => ?_) ?_
    · refine ⟨_, rfl, ?_, fun _ => ?_⟩
      · simp_arith [wipeE, dat_strs, lst_eq_nil, nilstr]
      · simp_arith [wipeE, Tm.enc, Tm.encs]
    · have l1 : (ns.filter fun n => decide (n.2 = k)).length ≤ ns.length := List.length_filter_le ..
      have l2 : ((mks k).filter fun m => decide (m.2 = [])).length ≤ (mks k).length := List.length_filter_le ..
      have l3 := mks_len k
      have e0 : (ns.filter fun n => decide (n.2 = k)).map nmV ++ ((mks k).filter fun m => decide (m.2 = [])).map (fun m => (Tm.mk m.1 []).enc) = (((ns.filter fun n => n.2 = k).map fun n => Tm.nm n.1 n.2) ++ ((mks k).filter fun m => m.2 = []).map fun m => Tm.mk m.1 []).map Tm.enc := by
        rw [List.map_append, List.map_map, List.map_map]; rfl
      refine ⟨by simp only [List.length_map]; omega, ?_⟩
      rw [e0]
      have dp : Tm.deps (((ns.filter fun n => n.2 = k).map fun n => Tm.nm n.1 n.2) ++ ((mks k).filter fun m => m.2 = []).map fun m => Tm.mk m.1 []) ≤ 50 := deps_le.mpr fun t ht => by
        rcases List.mem_append.mp ht with z | z
        · obtain ⟨n, _, rfl⟩ := List.mem_map.mp z; simp [Tm.dep]
        · obtain ⟨n, _, rfl⟩ := List.mem_map.mp z; simp [Tm.dep, Tm.deps]
      simp_arith [dat_tms dp, lst_eq_nil, List.map_eq_nil_iff]
      split
      · rename_i z
        rw [popS_same rfl]
        refine ⟨?_, rfl⟩
        unfold atoms
        simp only [z, if_true]
        rfl
      · rename_i z
        rw [popS_same rfl]
        refine ⟨?_, rfl⟩
        unfold atoms
        simp only [z, if_false]
end K72
end
section
set_option Elab.async false
set_option linter.all false
set_option maxRecDepth 100000
namespace K72
open PySem Mn
local macro_rules
  | `(tactic| simp_arith [$ls,*]) => `(tactic| simp only [sat_ok, sat_bad, sat_bind, sat_C, sat_nil, sat_cons, sat_var, sat_tup, sat_lst, sat_mkL, sat_op2, sat_opL, sat_call, sat_att, sat_meth, sat_tv, sat_and, sat_or, sat_not, sat_yes, sat_andV, sat_orV, sat_notV, sat_ifE, sat_seq, sat_dnx, sat_ret, sat_retN, sat_exp, sat_set, sat_if, sat_never, sat_unp, sat_lset, sat_dput, sat_fset, sat_aug, sat_for, sat_comp, sat_fI, sat_sub, sat_div, sat_mod, sat_addI, sat_mulI, sat_addL, sat_addT, sat_addS, sat_ix, sat_in, sat_is, sat_isnot, sat_len, sat_pow, sat_bm, sat_sl, sat_part, sat_nopart, sat_eq, sat_ne, sat_seqI, seqI_lst, seqI_tup, ix_tup, ix_lst, ix_scr, atI_0, atI_1, atI_2, atI_3, atI_4, dat_str, dat_int, dat_non, dat_nil, eq_str, eq_int, PV.isN, fnE, List.map_cons, List.map_nil, List.length_cons, List.length_nil, Nat.reduceAdd, Nat.reduceSub, List.reduceReplicate, List.cons_append, List.nil_append, List.append_nil, List.getElem?_cons_succ, List.getElem?_cons_zero, List.set_cons_succ, List.set_cons_zero, Option.some.injEq, PV.bl.injEq, PV.int.injEq, exists_eq_left', exists_eq_left, decide_eq_true_eq, Bool.not_eq_true', Nat.reduceLeDiff, true_and, and_true, Bool.false_eq_true, if_true, if_false, gt_iff_lt, ge_iff_le, reduceCtorEq, false_and, and_false, exists_false, Bool.not_true, Bool.not_false, $ls,*])
/-! ## the own work -/
structure Own where
  f : Str
  tk : List Str
  gv : Str
  at_ : Nat
  ns : List Nm
def Own.enc (w : Own) : PV := .tup [.str w.f, .lst (w.tk.map .str), .str w.gv, .int w.at_, .lst (w.ns.map nmV)]
def ownV : Option Own → PV
  | none => .non
  | some w => w.enc
def owns (o : Option Own) (k : Str) (n : Int) : List Sig := match o with
  | none => []
  | some w => if w.gv = k ∧ w.ns ≠ [] ∧ 1 ≤ n then [(w.f, w.tk, w.gv), (w.f, w.tk, w.gv)] else []
theorem dat_nms {h : AH} (ns : List Nm) : datOf h (.lst (ns.map nmV)) = some (.lst (ns.map nmV)) := by
  have e : ns.map nmV = (ns.map fun n => Tm.nm n.1 n.2).map Tm.enc := by rw [List.map_map]; rfl
  rw [e]
  exact dat_tms (deps_le.mpr fun t ht => by
    obtain ⟨n, _, rfl⟩ := List.mem_map.mp ht
    simp [Tm.dep])
theorem cut3 (m : Bool) {h : AH} (a b c d e : PV) : cutP m h (.tup [a, b, c, d, e]) none (some 3) = .ok (.tup [a, b, c]) h := by rfl
theorem own_eq (o : Option Own) (k : Str) (n : Int) (b : Nat) (h : AH) : f__law_own [ownV o, .str k, .int n] b h = .ok (.lst ((owns o k n).map sigV)) h := by
  apply sat_eq_of
  unfold f__law_own
  rw [sat_fn]
  unfold d__law_own
  cases o with
  | none =>
    unfold ownV
    simp_arith []
    rw [popS_same rfl]
    exact ⟨rfl, rfl⟩
  | some w =>
    unfold ownV Own.enc
    simp_arith [dat_nms, lst_eq_nil, List.map_eq_nil_iff, cut3]
    by_cases z1 : w.gv = k
    · by_cases z2 : w.ns = []
      · simp_arith [z1, z2]
        simp
        rw [popS_same rfl]
        exact ⟨by unfold owns; simp [z2], rfl⟩
      · by_cases z3 : n < 1
        · have z4 : ¬ 1 ≤ n := by omega
          simp [z1, z2, z3]
          rw [popS_same rfl]
          exact ⟨by unfold owns; simp [z4], rfl⟩
        · have z4 : 1 ≤ n := by omega
          simp [z1, z2, z3]
          rw [popS_same rfl]
          exact ⟨by unfold owns; simp [z1, z2, z4, sigV], rfl⟩
    · simp [z1]
      rw [popS_same rfl]
      exact ⟨by unfold owns; simp [z1], rfl⟩
end K72
end
section
set_option Elab.async false
set_option linter.all false
set_option maxRecDepth 100000
namespace K72
open PySem Mn
local macro_rules
  | `(tactic| simp_arith [$ls,*]) => `(tactic| simp only [sat_ok, sat_bad, sat_bind, sat_C, sat_nil, sat_cons, sat_var, sat_tup, sat_lst, sat_mkL, sat_op2, sat_opL, sat_call, sat_att, sat_meth, sat_tv, sat_and, sat_or, sat_not, sat_yes, sat_andV, sat_orV, sat_notV, sat_ifE, sat_seq, sat_dnx, sat_ret, sat_retN, sat_exp, sat_set, sat_if, sat_never, sat_unp, sat_lset, sat_dput, sat_fset, sat_aug, sat_for, sat_comp, sat_fI, sat_sub, sat_div, sat_mod, sat_addI, sat_mulI, sat_addL, sat_addT, sat_addS, sat_ix, sat_in, sat_is, sat_isnot, sat_len, sat_pow, sat_bm, sat_sl, sat_part, sat_nopart, sat_eq, sat_ne, sat_seqI, seqI_lst, seqI_tup, ix_tup, ix_lst, ix_scr, atI_0, atI_1, atI_2, atI_3, atI_4, dat_str, dat_int, dat_non, dat_nil, eq_str, eq_int, PV.isN, fnE, List.map_cons, List.map_nil, List.length_cons, List.length_nil, Nat.reduceAdd, Nat.reduceSub, List.reduceReplicate, List.cons_append, List.nil_append, List.append_nil, List.getElem?_cons_succ, List.getElem?_cons_zero, List.set_cons_succ, List.set_cons_zero, Option.some.injEq, PV.bl.injEq, PV.int.injEq, exists_eq_left', exists_eq_left, decide_eq_true_eq, Bool.not_eq_true', Nat.reduceLeDiff, true_and, and_true, Bool.false_eq_true, if_true, if_false, gt_iff_lt, ge_iff_le, reduceCtorEq, false_and, and_false, exists_false, Bool.not_true, Bool.not_false, $ls,*])
/-! ## drawn terms -/
inductive Wk (S : Sig → Prop) (M : Nm → Prop) (O : Str → List Tm → Prop) : Tm → Str → Prop where
  | nm {x k : Str} : M (x, k) → Wk S M O (.nm x k) k
  | mk {f k : Str} {tk : List Str} {ps : List Tm} : S (f, tk, k) → ps.length = tk.length → (∀ (i : Nat) (p : Tm) (t : Str), ps[i]? = some p → tk[i]? = some t → Wk S M O p t) → O f ps → Wk S M O (.mk f ps) k
def sig0P (s : Sig) : Prop := Kd s.2.2 ∧ (s.1, s.2.1) ∈ mks s.2.2
def Sg (ws : List Told) (o : Option Own) (s : Sig) : Prop := sig0P s ∨ (∃ w ∈ ws, w.sig = s) ∨ ∃ w, o = some w ∧ w.ns ≠ [] ∧ s = (w.f, w.tk, w.gv)
def tNm : Nm := ("t", "thing")
def Mg (ns : List Nm) (n : Nm) : Prop := n ∈ ns ∨ n = tNm
def Og (o : Option Own) (f : Str) (ps : List Tm) : Prop := ∀ w, o = some w → f = w.f → ∃ n ∈ w.ns, ps[w.at_]? = some (.nm n.1 n.2)
def sz : Nat → Nat
  | 0 => 1
  | n + 1 => 1 + 3 * sz n
/-- what is handed to the drawing of terms -/
structure TmIn (ns : List Nm) (ws : List Told) (o : Option Own) : Prop where
  nl : ns.length ≤ 50
  wl : ws.length ≤ 20
  nk : ∀ n ∈ ns, Kd n.2
  kd : ∀ s, Sg ws o s → s.2.1.length ≤ 3 ∧ Kd s.2.2 ∧ ∀ t ∈ s.2.1, Kd t
  os : ∀ w, o = some w → ∀ s, Sg ws o s → s.1 = w.f → s.2.1 = w.tk ∧ w.ns ≠ []
  ol : ∀ w, o = some w → w.ns.length ≤ 50
  oa : ∀ w, o = some w → w.at_ < w.tk.length
  on : ∀ w, o = some w → ∀ n ∈ w.ns, n ∈ ns ∧ w.tk[w.at_]? = some n.2
abbrev WkG (ns : List Nm) (ws : List Told) (o : Option Own) : Tm → Str → Prop := Wk (Sg ws o) (Mg ns) (Og o)
theorem mks_zero {k : Str} (hk : Kd k) : k = "thing" ∨ ∃ m ∈ mks k, m.2 = [] := by
  rcases hk with rfl | rfl | rfl | rfl
  · exact .inr ⟨("off", []), by decide, rfl⟩
  · exact .inr ⟨("zero", []), by decide, rfl⟩
  · exact .inr ⟨("none", []), by decide, rfl⟩
  · exact .inl rfl
theorem atoms_wk {ns : List Nm} {ws : List Told} {o : Option Own} (T : TmIn ns ws o) {k : Str} (hk : Kd k) : ∀ t ∈ atoms k ns, WkG ns ws o t k ∧ t.dep = 1 ∧ t.size = 1 := by
  intro t ht
  unfold atoms at ht
  simp only at ht
  split at ht
  · rename_i z
    rw [List.mem_singleton.mp ht]
    refine ⟨.nm (.inr ?_), rfl, rfl⟩
    rcases mks_zero hk with e | ⟨m, hm, e⟩
    · rw [e]; rfl
    · exfalso
      have : Tm.mk m.1 [] ∈ ((ns.filter fun n => n.2 = k).map fun n => Tm.nm n.1 n.2) ++ ((mks k).filter fun m => m.2 = []).map fun m => Tm.mk m.1 [] := List.mem_append_right _ (List.mem_map.mpr ⟨m, List.mem_filter.mpr ⟨hm, by simp [e]⟩, rfl⟩)
      rw [z] at this
      cases this
  · rcases List.mem_append.mp ht with z | z
    · obtain ⟨n, hn, rfl⟩ := List.mem_map.mp z
      obtain ⟨h1, h2⟩ := List.mem_filter.mp hn
      have e : n.2 = k := by simpa using h2
      refine ⟨?_, rfl, rfl⟩
      rw [← e]
      exact .nm (.inl h1)
    · obtain ⟨m, hm, rfl⟩ := List.mem_map.mp z
      obtain ⟨h1, h2⟩ := List.mem_filter.mp hm
      have e : m.2 = [] := by simpa using h2
      refine ⟨.mk (tk := []) (.inl ⟨hk, ?_⟩) rfl (fun i p t e => by simp at e) (fun w hw hf => ?_), rfl, rfl⟩
      · rw [← e]; exact h1
      · exfalso
        have q := (T.os w hw (m.1, [], k) (.inl ⟨hk, by rw [← e]; exact h1⟩) hf).1
        have q2 := T.oa w hw
        rw [← q] at q2
        exact Nat.not_lt_zero _ q2
theorem sz_pos : ∀ n, 1 ≤ sz n
  | 0 => Nat.le_refl _
  | n + 1 => by unfold sz; omega
theorem len_lst {h : AH} (xs : List PV) : lenP h (.lst xs) = some xs.length := rfl
theorem atoms_len (k : Str) (ns : List Nm) : (atoms k ns).length ≤ ns.length + 2 := by
  have l1 : (ns.filter fun n => decide (n.2 = k)).length ≤ ns.length := List.length_filter_le ..
  have l2 : ((mks k).filter fun m => decide (m.2 = [])).length ≤ (mks k).length := List.length_filter_le ..
  have l3 := mks_len k
  unfold atoms
  simp only
  split
  · simp
  · simp only [List.length_append, List.length_map]; omega
theorem owns_len (o : Option Own) (k : Str) (n : Int) : (owns o k n).length ≤ 2 := by
  unfold owns
  split
  · simp
  · split <;> simp
/-- what may be made -/
def mkL2 (ws : List Told) (o : Option Own) (k : Str) (n : Nat) : List Sig := (mk2 ++ ws.map Told.sig).filter (fun s => decide (0 < n) && decide (s.2.2 = k)) ++ owns o k n
theorem mkL2_len (ws : List Told) (o : Option Own) (k : Str) (n : Nat) : (mkL2 ws o k n).length ≤ ws.length + 4 := by
  have l1 : ((mk2 ++ ws.map Told.sig).filter (fun s => decide (0 < n) && decide (s.2.2 = k))).length ≤ (mk2 ++ ws.map Told.sig).length := List.length_filter_le ..
  have l2 := owns_len o k n
  have l3 : mk2.length = 2 := rfl
  simp only [mkL2, List.length_append, List.length_map] at l1 ⊢
  omega
theorem mkL2_in {ws : List Told} {o : Option Own} {k : Str} {n : Nat} {s : Sig} (hk : Kd k) (hs : s ∈ mkL2 ws o k n) : Sg ws o s ∧ s.2.2 = k ∧ 0 < n := by
  rcases List.mem_append.mp hs with z | z
  · obtain ⟨h1, h2⟩ := List.mem_filter.mp z
    simp only [Bool.and_eq_true, decide_eq_true_eq] at h2
    refine ⟨?_, h2.2, h2.1⟩
    rcases List.mem_append.mp h1 with y | y
    · refine .inl ⟨by rw [h2.2]; exact hk, ?_⟩
      rcases List.mem_cons.mp y with rfl | y
      · decide
      · rcases List.mem_cons.mp y with rfl | y
        · decide
        · cases y
    · obtain ⟨w, hw, e⟩ := List.mem_map.mp y
      exact .inr (.inl ⟨w, hw, e⟩)
  · unfold owns at z
    split at z
    · cases z
    · rename_i w
      split at z
      · rename_i c
        have e : s = (w.f, w.tk, w.gv) := by simpa using z
        exact ⟨.inr (.inr ⟨w, rfl, c.2.1, e⟩), by rw [e]; exact c.1, by omega⟩
      · cases z
def envT (ns : List Nm) (ws : List Told) (o : Option Own) (r n j : Nat) (gv f : Str) (tk : List Str) (h : AH) (e13 e14 e15 : Option PV) : EnvP := [some (PV.ref r), some (PV.str gv), some (PV.lst (List.map nmV ns)), some (PV.lst (List.map Told.enc ws)), some (PV.int (n : Nat)), some (ownV o), some (PV.lst (List.map Tm.enc (atoms gv ns))), some (PV.lst (List.map sigV (mkL2 ws o gv n))), some (PV.int (j : Nat)), some (PV.str f), some (PV.lst (List.map PV.str tk)), some (PV.str gv), some (PV.ref h.length), e13, e14, e15, none]
def invT (ns : List Nm) (ws : List Told) (o : Option Own) (r n j : Nat) (gv f : Str) (tk : List Str) (h : AH) (i : Nat) (e : EnvP) (hh : AH) : Prop :=
  ∃ (ps : List Tm) (a2 c2 : Int) (e13 e14 e15 : Option PV), ps.length = i ∧ (∀ (q : Nat) (p : Tm) (t : Str), ps[q]? = some p → tk[q]? = some t → WkG ns ws o p t) ∧ (∀ w, o = some w → f = w.f → w.at_ < i → ∃ n ∈ w.ns, ps[w.at_]? = some (.nm n.1 n.2)) ∧
    Tm.deps ps ≤ n ∧ Tm.sizes ps ≤ i * sz (n - 1) ∧ 0 ≤ a2 ∧ 0 ≤ c2 ∧ e = envT ns ws o r n j gv f tk h e13 e14 e15 ∧ hh = h.set r (src a2 c2) ++ [.lst (ps.map Tm.enc)]
theorem sizes_app (ts : List Tm) (u : Tm) : Tm.sizes (ts ++ [u]) = Tm.sizes ts + u.size := by
  induction ts with
  | nil => simp [Tm.sizes]
  | cons t ts ih => simp only [List.cons_append, Tm.sizes, ih]; omega
theorem app_ok {ns : List Nm} {ws : List Told} {o : Option Own} {r n j : Nat} {gv f : Str} {tk : List Str} {h : AH} {i : Nat} {ps : List Tm} (hr : r < h.length) (hi : i < tk.length) (hz : tk.length ≤ 3) (hl : ps.length = i) (hw : ∀ (q : Nat) (p : Tm) (t : Str), ps[q]? = some p → tk[q]? = some t → WkG ns ws o p t)
    (ho : ∀ w, o = some w → f = w.f → w.at_ < i → ∃ n ∈ w.ns, ps[w.at_]? = some (.nm n.1 n.2)) (hd : Tm.deps ps ≤ n) (hs : Tm.sizes ps ≤ i * sz (n - 1)) (u : Tm) (a3 c3 : Int) (x14 y15 : Option PV) (u1 : WkG ns ws o u tk[i]) (u2 : u.dep ≤ n) (u3 : u.size ≤ sz (n - 1)) (ha : 0 ≤ a3) (hc : 0 ≤ c3)
    (u4 : ∀ w, o = some w → f = w.f → w.at_ = i → ∃ n ∈ w.ns, u = .nm n.1 n.2) : isL (h.set r (src a3 c3) ++ [AO.lst (ps.map Tm.enc)]) (.ref h.length) = true ∧ (fAppend (.ref h.length) [u.enc] h.length (h.set r (src a3 c3) ++ [AO.lst (ps.map Tm.enc)])).sat fun x h1 => invT ns ws o r n j gv f tk h (i + 1) (envT ns ws o r n j gv f tk h (some (.int i)) x14 y15) h1 := by
  have el : (h.set r (src a3 c3) ++ [AO.lst (ps.map Tm.enc)])[h.length]? = some (.lst (ps.map Tm.enc)) := by
    rw [List.getElem?_append_right (by simp)]; simp
  refine ⟨isL_ref el, ?_⟩
  rw [append_ref el]
  refine ⟨⟨by simp; omega, okW_pure (low_dat _ (enc_dat u) 0)⟩, ?_⟩
  refine ⟨ps ++ [u], a3, c3, _, x14, y15, by simp [hl], fun q p t e1 e2 => ?_, fun w hw' hf hat => ?_, ?_, ?_, ha, hc, rfl, ?_⟩
  · rcases Nat.lt_trichotomy q i with z | z | z
    · rw [List.getElem?_append_left (by omega)] at e1
      exact hw q p t e1 e2
    · subst z
      rw [List.getElem?_append_right (by omega), hl, Nat.sub_self] at e1
      cases e1
      rw [List.getElem?_eq_getElem hi] at e2
      cases e2
      exact u1
    · rw [List.getElem?_eq_none (by simp; omega)] at e1; cases e1
  · rcases Nat.lt_or_ge w.at_ i with z | z
    · obtain ⟨n, q1, q2⟩ := ho w hw' hf z
      exact ⟨n, q1, by rw [List.getElem?_append_left (by omega)]; exact q2⟩
    · obtain ⟨n, q1, q2⟩ := u4 w hw' hf (by omega)
      refine ⟨n, q1, ?_⟩
      rw [List.getElem?_append_right (by omega), hl, show w.at_ - i = 0 by omega, ← q2]; rfl
  · refine deps_le.mpr fun t ht => ?_
    rcases List.mem_append.mp ht with z | z
    · exact deps_le.mp hd t z
    · rw [List.mem_singleton.mp z]; exact u2
  · rw [sizes_app, Nat.add_mul, Nat.one_mul]; omega
  · rw [List.set_append_right _ _ (by simp), List.map_append]
    simp
theorem term_ok {ns : List Nm} {ws : List Told} {o : Option Own} (T : TmIn ns ws o) {r : Nat} : ∀ (m n : Nat) (k : Str) (a c : Int) (b : Nat) (h : AH), n < m → Kd k → h[r]? = some (src a c) → 0 ≤ a → 0 ≤ c →
    (f__law_term m [.ref r, .str k, .lst (ns.map nmV), .lst (ws.map Told.enc), .int n, ownV o] b h).sat fun v h' => ∃ t a' c', v = t.enc ∧ WkG ns ws o t k ∧ t.dep ≤ n + 1 ∧ t.size ≤ sz n ∧ 0 ≤ a' ∧ 0 ≤ c' ∧ h' = h.set r (src a' c')
  | 0, n, k, a, c, b, h, hn, _, _, _, _ => absurd hn (Nat.not_lt_zero _)
  | m + 1, n, k, a, c, b, h, hn, hk, e, ha, hc => by
    show (mkFn true 17 (d__law_term (f__law_term m)) _ b h).sat _
    rw [sat_fn]
    unfold d__law_term
    simp_arith [eq_sat (atoms_eq hk ns (by have := T.nl; omega) _ _), eq_sat (makes_eq ws (by have := T.wl; omega) _ _)]
    refine compL_typ _ _ _ (mk2 ++ ws.map Told.sig) sigV (fun s => decide (0 < n) && decide (s.2.2 = k)) sigV (fun s hs => ?_) ?_
    · refine ⟨_, rfl, ?_, fun _ => ?_⟩
      · unfold sigV
        simp_arith [wipeE]
        by_cases z : 0 < n
        · simp [z]
        · simp [z]
      · simp_arith [wipeE]
    · have md : (mk2 ++ ws.map Told.sig).filter (fun s => decide (0 < n) && decide (s.2.2 = k)) ++ owns o k n = mkL2 ws o k n := rfl
      simp_arith [eq_sat (own_eq o k n _ _), ← List.map_append, len_lst, List.length_map]
      have A1 := atoms_len k ns
      have A2 := mkL2_len ws o k n
      have A3 := T.nl
      have A4 := T.wl
      have A5 : 0 < (atoms k ns).length := List.length_pos_iff.mpr (atoms_ne k ns)
      have A6 := congrArg List.length md
      rw [List.length_append] at A6
      refine ⟨by omega, ?_⟩
      simp only [md]
      refine ⟨cMul_small (by omega) (by omega), ?_⟩
      refine (take_ok e (by omega) (by omega) ha hc).mono ?_
      rintro v h1 ⟨d, a1, c1, rfl, d0, d1, ha1, hc1, rfl⟩
      simp_arith []
      have hr : r < h.length := (List.getElem?_eq_some_iff.mp e).1
      obtain ⟨j, rfl⟩ : ∃ j : Nat, d = j := ⟨d.toNat, by omega⟩
      by_cases z : j < (atoms k ns).length
      · have z' : (j : Int) < ((atoms k ns).length : Nat) := by omega
        simp only [z', if_true]
        obtain ⟨q1, q2, q3⟩ := atoms_wk T hk _ (List.getElem_mem z)
        refine ⟨((atoms k ns)[j]).enc, ?_, ?_⟩
        · rw [atI_nat, List.getElem?_map, List.getElem?_eq_getElem z]; rfl
        · rw [popS_same (by simp)]
          exact ⟨_, a1, c1, rfl, q1, by omega, by have := sz_pos n; omega, ha1, hc1, rfl⟩
      · have z' : ¬ (j : Int) < ((atoms k ns).length : Nat) := by omega
        simp only [z', if_false]
        refine ⟨⟨by decide, by decide⟩, ?_⟩
        have ei : ((j : Int) - ((atoms k ns).length : Nat)) / 2 = (((j - (atoms k ns).length) / 2 : Nat) : Int) := by omega
        have hi : (j - (atoms k ns).length) / 2 < (mkL2 ws o k n).length := by omega
        rw [ei, atI_nat, List.getElem?_map, List.getElem?_eq_getElem hi]
        refine ⟨_, rfl, ?_⟩
        obtain ⟨s1, s2, s3⟩ := mkL2_in hk (List.getElem_mem hi)
        generalize (mkL2 ws o k n)[(j - (atoms k ns).length) / 2] = s at s1 s2
        obtain ⟨f, tk, gv⟩ := s
        simp only at s2
        subst s2
        refine ⟨_, rfl, ?_⟩
        simp_arith [dEnum, List.length_set]
        obtain ⟨K1, _, K3⟩ := T.kd _ s1
        have en : (n : Int) - 1 = ((n - 1 : Nat) : Int) := by omega
        refine forL_sat _ _ _ (invT ns ws o r n j gv f tk h) ?turn ?fin _ 0 _ _ (Nat.add_zero _) ⟨[], a1, c1, none, none, none, rfl, fun q p t z => by simp at z, fun w _ _ z => absurd z (Nat.not_lt_zero _), by simp [Tm.deps], by simp [Tm.sizes], ha1, hc1, rfl, rfl⟩
        case turn =>
          rintro i e2 hh hi ⟨ps, a2, c2, e13, e14, e15, hl, hw, ho, hd, hs, ha2, hc2, rfl, rfl⟩
          have hi' : i < tk.length := by
            have q : i < (tk.map PV.str).length := hi
            rwa [List.length_map] at q
          refine ⟨.tup [.int i, .str tk[i]], _, ?_, rfl, ?_⟩
          · show ((tk.map PV.str)[i]?).map _ = _
            rw [List.getElem?_map, List.getElem?_eq_getElem hi']; rfl
          · unfold envT
            simp_arith [en]
            have er : (h.set r (src a2 c2) ++ [AO.lst (ps.map Tm.enc)])[r]? = some (src a2 c2) := by
              rw [List.getElem?_append_left (by simpa using hr), List.getElem?_set_self hr]
            refine (term_ok T m (n - 1) tk[i] a2 c2 h.length _ (by omega) (K3 _ (List.getElem_mem hi')) er ha2 hc2).mono ?_
            rintro v h3 ⟨t, a3, c3, rfl, w1, w2, w3, ha3, hc3, rfl⟩
            have es : (h.set r (src a2 c2) ++ [AO.lst (ps.map Tm.enc)]).set r (src a3 c3) = h.set r (src a3 c3) ++ [AO.lst (ps.map Tm.enc)] := by
              rw [List.set_append_left _ _ (by simpa using hr), List.set_set]
            simp only [es]
            have app := fun u a3 c3 x14 y15 => app_ok (ns := ns) (ws := ws) (o := o) (r := r) (n := n) (j := j) (gv := gv) (f := f) (h := h) hr hi' K1 hl hw ho hd hs u a3 c3 x14 y15
            unfold envT at app
            cases o with
            | none =>
              unfold ownV
              simp_arith []
              exact app t a3 c3 _ _ w1 (by omega) w3 ha3 hc3 (fun w z => by cases z)
            | some w =>
              unfold ownV Own.enc
              simp_arith []
              split
              · rename_i hf
                obtain ⟨o1, o2⟩ := T.os w rfl _ s1 hf
                simp only at o1
                split
                · rename_i hat
                  have ia : w.at_ = i := by omega
                  have pos := List.length_pos_iff.mpr o2
                  have big := T.ol w rfl
                  refine ⟨w.ns.length, by rw [len_lst, List.length_map], ?_⟩
                  have er3 : (h.set r (src a3 c3) ++ [AO.lst (ps.map Tm.enc)])[r]? = some (src a3 c3) := by
                    rw [List.getElem?_append_left (by simpa using hr), List.getElem?_set_self hr]
                  refine (take_ok er3 (by omega) (by omega) ha3 hc3).mono ?_
                  rintro v h4 ⟨d, a4, c4, rfl, d0, d1, ha4, hc4, rfl⟩
                  obtain ⟨q, rfl⟩ : ∃ q : Nat, d = q := ⟨d.toNat, by omega⟩
                  have hq : q < w.ns.length := by omega
                  have es4 : (h.set r (src a3 c3) ++ [AO.lst (ps.map Tm.enc)]).set r (src a4 c4) = h.set r (src a4 c4) ++ [AO.lst (ps.map Tm.enc)] := by
                    rw [List.set_append_left _ _ (by simpa using hr), List.set_set]
                  obtain ⟨n1, n2⟩ := T.on w rfl _ (List.getElem_mem hq)
                  refine ⟨nmV w.ns[q], by rw [ix_lst, atI_nat, List.getElem?_map, List.getElem?_eq_getElem hq]; rfl, ?_⟩
                  rw [es4]
                  have kq : w.ns[q].2 = tk[i] := by
                    rw [ia, ← o1, List.getElem?_eq_getElem hi'] at n2
                    exact (Option.some.inj n2).symm
                  exact app (.nm w.ns[q].1 w.ns[q].2) a4 c4 _ _ (by rw [← kq]; exact .nm (.inl n1)) (by simp [Tm.dep]; omega) (by have := sz_pos (n - 1); simp [Tm.size]; omega) ha4 hc4 fun w' z _ _ => by cases z; exact ⟨_, List.getElem_mem hq, rfl⟩
                · rename_i hat
                  exact app t a3 c3 _ _ w1 (by omega) w3 ha3 hc3 fun w' z _ q => by cases z; omega
              · rename_i hf
                exact app t a3 c3 _ _ w1 (by omega) w3 ha3 hc3 fun w' z q _ => by cases z; exact absurd q hf
        case fin =>
          rintro e2 hh ⟨ps, a2, c2, e13, e14, e15, hl, hw, ho, hd, hs, ha2, hc2, rfl, rfl⟩
          refine ⟨rfl, ?_⟩
          have hl' : ps.length = tk.length := by rw [hl]; exact List.length_map ..
          have el : (h.set r (src a2 c2) ++ [AO.lst (ps.map Tm.enc)])[h.length]? = some (.lst (ps.map Tm.enc)) := by
            rw [List.getElem?_append_right (by simp)]; simp
          have te : ∀ b, fTupOf [.ref h.length] b (h.set r (src a2 c2) ++ [AO.lst (ps.map Tm.enc)]) = .ok (.tup (ps.map Tm.enc)) (h.set r (src a2 c2) ++ [AO.lst (ps.map Tm.enc)]) := fun b => by
            unfold fTupOf seqOf; simp only [el]
          unfold envT
          simp_arith [eq_sat (te _)]
          have ee : PV.tup [.str "made", .str f, .tup (ps.map Tm.enc)] = (Tm.mk f ps).enc := by rw [Tm.enc, encs_map]
          rw [ee, popS_low (low_dat _ (enc_dat _) _) (by simp)]
          have tk2 : (h.set r (src a2 c2) ++ [AO.lst (ps.map Tm.enc)]).take h.length = h.set r (src a2 c2) := by
            rw [List.take_append_of_le_length (by simp), List.take_of_length_le (by simp)]
          rw [tk2]
          refine ⟨.mk f ps, a2, c2, rfl, .mk s1 hl' hw (fun w hw' hf => ho w hw' hf ?_), by simp only [Tm.dep]; omega, ?_, ha2, hc2, rfl⟩
          · have q := T.oa w hw'
            rw [← (T.os w hw' _ s1 hf).1] at q
            have z : (itEn (itS (tk.map PV.str))).n = tk.length := List.length_map ..
            rw [z]; exact q
          · have z : (itEn (itS (tk.map PV.str))).n = tk.length := List.length_map ..
            rw [z] at hs
            have K1' : tk.length ≤ 3 := K1
            have m3 : tk.length * sz (n - 1) ≤ 3 * sz (n - 1) := Nat.mul_le_mul_right _ K1'
            obtain ⟨n', rfl⟩ : ∃ n', n = n' + 1 := ⟨n - 1, by omega⟩
            simp only [Nat.add_sub_cancel] at hs m3
            simp only [Tm.size, sz]
            omega
end K72
end
section
set_option Elab.async false
set_option linter.all false
set_option maxRecDepth 100000
namespace K72
open PySem Mn
local macro_rules
  | `(tactic| simp_arith [$ls,*]) => `(tactic| simp only [sat_ok, sat_bad, sat_bind, sat_C, sat_nil, sat_cons, sat_var, sat_tup, sat_lst, sat_mkL, sat_op2, sat_opL, sat_call, sat_att, sat_meth, sat_tv, sat_and, sat_or, sat_not, sat_yes, sat_andV, sat_orV, sat_notV, sat_ifE, sat_seq, sat_dnx, sat_ret, sat_retN, sat_exp, sat_set, sat_if, sat_never, sat_unp, sat_lset, sat_dput, sat_fset, sat_aug, sat_for, sat_comp, sat_fI, sat_sub, sat_div, sat_mod, sat_addI, sat_mulI, sat_addL, sat_addT, sat_addS, sat_ix, sat_in, sat_is, sat_isnot, sat_len, sat_pow, sat_bm, sat_sl, sat_part, sat_nopart, sat_eq, sat_ne, sat_seqI, seqI_lst, seqI_tup, ix_tup, ix_lst, ix_scr, atI_0, atI_1, atI_2, atI_3, atI_4, dat_str, dat_int, dat_non, dat_nil, eq_str, eq_int, PV.isN, fnE, List.map_cons, List.map_nil, List.length_cons, List.length_nil, Nat.reduceAdd, Nat.reduceSub, List.reduceReplicate, List.cons_append, List.nil_append, List.append_nil, List.getElem?_cons_succ, List.getElem?_cons_zero, List.set_cons_succ, List.set_cons_zero, Option.some.injEq, PV.bl.injEq, PV.int.injEq, exists_eq_left', exists_eq_left, decide_eq_true_eq, Bool.not_eq_true', Nat.reduceLeDiff, true_and, and_true, Bool.false_eq_true, if_true, if_false, gt_iff_lt, ge_iff_le, reduceCtorEq, false_and, and_false, exists_false, Bool.not_true, Bool.not_false, sat_rng1, sat_rng2, sat_zip, sat_zipL, sat_listOf, sat_tupOf, sat_all, sat_any, sat_isi, sat_make, sat_dic0, seqOf_lst, seqOf_tup, lstOf_lst, lenP_lst, lenP_tup, srcP_lst, srcP_tup, tyP_str, tyP_tup, tyP_lst, tyP_int, tyP_non, Option.bind_some, cut_to, cut_from, cut_toT, cut_fromT, wipeE, $ls,*])
/-! ## works drawn -/
def K3 (k : Str) : Prop := k = "bit" ∨ k = "num" ∨ k = "row"
theorem K3.kd {k : Str} (h : K3 k) : Kd k := by rcases h with h | h | h <;> simp [Kd, h]
def xs (tk : List Str) : List Nm := List.zip ["xa", "xb", "xc"] tk
def ys (tk : List Str) : List Nm := List.zip ["ya", "yb"] tk
def opn (ws : List Told) : List Told := ws.filter fun w => decide (w.rs ≠ [])
/-- the names that a falling work's right for one maker may hold -/
def fns (tk : List Str) (a : Nat) (needs : List Str) : List Nm := (xs tk).take a ++ (xs tk).drop (a + 1) ++ ys needs
def ownOf (f : Str) (tk : List Str) (gv : Str) (a : Nat) (needs : List Str) : Own := ⟨f, tk, gv, a, (ys needs).filter fun n => decide (some n.2 = tk[a]?)⟩
/-- the rights of a told fit, the ones ahead being prev -/
def FalOk (prev : List Told) (f : Str) (tk : List Str) (gv : Str) (a : Nat) (k : Str) (rs : List Tm) : Prop := ∀ (i : Nat) (t : Tm) (m : Str × List Str), rs[i]? = some t → (mks k)[i]? = some m → WkG (fns tk a m.2) (opn prev) (some (ownOf f tk gv a m.2)) t gv ∧ t.dep ≤ 3 ∧ t.size ≤ 13
def RsOk (prev : List Told) (w : Told) : Prop := match w.at_ with
  | none => w.rs = [] ∨ ∃ t, w.rs = [t] ∧ WkG (xs w.tk) (opn prev) none t w.gv ∧ t.dep ≤ 3 ∧ t.size ≤ 13
  | some a => ∃ k, w.tk[a]? = some k ∧ w.rs.length = (mks k).length ∧ FalOk prev w.f w.tk w.gv a k w.rs
structure TOk (prev : List Told) (w : Told) : Prop where
  len : w.tk.length ≤ 3
  ne : w.tk ≠ []
  kt : (∀ t ∈ w.tk, K3 t) ∧ K3 w.gv ∨ w.tk = [("thing" : Str)] ∧ w.rs = [] ∧ w.at_ = none
  kg : Kd w.gv
  rs : RsOk prev w
def fnm : List Str := ["grow", "seen", "one", "two", "three", "four"]
structure WsOk (ws : List Told) : Prop where
  nm : ws.map Told.f = fnm.take ws.length
  len : ws.length ≤ 6
  ok : ∀ (i : Nat) (w : Told), ws[i]? = some w → TOk (ws.take i) w
theorem WsOk.tok {ws : List Told} (W : WsOk ws) {w : Told} (h : w ∈ ws) : ∃ prev, TOk prev w := by
  obtain ⟨i, e⟩ := List.mem_iff_getElem?.mp h
  exact ⟨_, W.ok i w e⟩
theorem TOk.kds {prev : List Told} {w : Told} (T : TOk prev w) : ∀ t ∈ w.tk, Kd t := by
  intro t ht
  rcases T.kt with ⟨h, _⟩ | ⟨h, _⟩
  · exact (h t ht).kd
  · rw [h] at ht; rw [List.mem_singleton.mp ht]; simp [Kd]
def al (i : Nat) : Str := if i = 0 then "a" else if i = 1 then "b" else "c"
theorem abc_ix {h : AH} {i : Nat} (hi : i < 3) : ixP h (.str "abc") (.int i) = some (.str (al i)) := by
  rcases (by omega : i = 0 ∨ i = 1 ∨ i = 2) with rfl | rfl | rfl <;> rfl
theorem ab_ix {h : AH} {i : Nat} (hi : i < 2) : ixP h (.str "ab") (.int i) = some (.str (al i)) := by
  rcases (by omega : i = 0 ∨ i = 1) with rfl | rfl <;> rfl
theorem al_len (i : Nat) : (al i).length = 1 := by unfold al; split; rfl; split <;> rfl
theorem xs_range {tk : List Str} (hz : tk.length ≤ 3) {f : Nat → PV} (hf : ∀ (i : Nat) (hi : i < tk.length), f i = nmV (("x" : Str) ++ al i, tk[i])) : (List.range tk.length).map f = (xs tk).map nmV := by
  rcases tk with _ | ⟨a, _ | ⟨b, _ | ⟨c, _ | ⟨d, r⟩⟩⟩⟩
  · rfl
  · show [f 0] = _; rw [hf 0 (by simp)]; rfl
  · show [f 0, f 1] = _; rw [hf 0 (by simp), hf 1 (by simp)]; rfl
  · show [f 0, f 1, f 2] = _; rw [hf 0 (by simp), hf 1 (by simp), hf 2 (by simp)]; rfl
  · simp at hz
theorem ys_range {tk : List Str} (hz : tk.length ≤ 2) {f : Nat → PV} (hf : ∀ (i : Nat) (hi : i < tk.length), f i = nmV (("y" : Str) ++ al i, tk[i])) : (List.range tk.length).map f = (ys tk).map nmV := by
  rcases tk with _ | ⟨a, _ | ⟨b, _ | ⟨c, r⟩⟩⟩
  · rfl
  · show [f 0] = _; rw [hf 0 (by simp)]; rfl
  · show [f 0, f 1] = _; rw [hf 0 (by simp), hf 1 (by simp)]; rfl
  · simp at hz
theorem mks_K {k : Str} (m : Str × List Str) (hm : m ∈ mks k) : m.2.length ≤ 2 ∧ (∀ t ∈ m.2, K3 t) ∧ m.1 ∉ fnm ∧ (m.1 ∈ (["off", "on", "zero", "next", "none", "put"] : List Str)) := by
  unfold mks at hm
  split at hm
  · rcases List.mem_cons.mp hm with rfl | hm
    · exact ⟨by decide, by simp, by decide, by decide⟩
    · rcases List.mem_cons.mp hm with rfl | hm
      · exact ⟨by decide, by simp, by decide, by decide⟩
      · cases hm
  · split at hm
    · rcases List.mem_cons.mp hm with rfl | hm
      · exact ⟨by decide, by simp, by decide, by decide⟩
      · rcases List.mem_cons.mp hm with rfl | hm
        · exact ⟨by decide, by simp [K3], by decide, by decide⟩
        · cases hm
    · split at hm
      · rcases List.mem_cons.mp hm with rfl | hm
        · exact ⟨by decide, by simp, by decide, by decide⟩
        · rcases List.mem_cons.mp hm with rfl | hm
          · exact ⟨by decide, by simp [K3], by decide, by decide⟩
          · cases hm
      · cases hm
theorem ys_kinds {tk : List Str} {n : Nm} (h : n ∈ ys tk) : n.2 ∈ tk := (List.of_mem_zip h).2
theorem xs_kinds {tk : List Str} {n : Nm} (h : n ∈ xs tk) : n.2 ∈ tk := (List.of_mem_zip h).2
theorem xs_len (tk : List Str) : (xs tk).length ≤ 3 := by unfold xs; rw [List.length_zip]; simp; omega
theorem ys_len (tk : List Str) : (ys tk).length ≤ 2 := by unfold ys; rw [List.length_zip]; simp; omega
theorem fns_in {tk needs : List Str} {a : Nat} {n : Nm} (h : n ∈ fns tk a needs) : n ∈ xs tk ∨ n ∈ ys needs := by
  unfold fns at h
  rcases List.mem_append.mp h with h | h
  · rcases List.mem_append.mp h with h | h
    · exact .inl (List.mem_of_mem_take h)
    · exact .inl (List.mem_of_mem_drop h)
  · exact .inr h
theorem opn_in {ws : List Told} {w : Told} (h : w ∈ opn ws) : w ∈ ws ∧ w.rs ≠ [] := by
  obtain ⟨h1, h2⟩ := List.mem_filter.mp h
  exact ⟨h1, by simpa using h2⟩
theorem sg_kd {ws : List Told} (W : WsOk ws) {s : Sig} (h : sig0P s ∨ ∃ w ∈ ws, w.sig = s) : s.2.1.length ≤ 3 ∧ Kd s.2.2 ∧ ∀ t ∈ s.2.1, Kd t := by
  rcases h with ⟨h1, h2⟩ | ⟨w, hw, rfl⟩
  · obtain ⟨q1, q2, _⟩ := mks_K _ h2
    exact ⟨by simp only at q1; omega, h1, fun t ht => (q2 t ht).kd⟩
  · obtain ⟨p, T⟩ := W.tok hw
    exact ⟨T.len, T.kg, T.kds⟩
theorem tmin_plain {ws : List Told} (W : WsOk ws) {tk : List Str} (hk : ∀ t ∈ tk, K3 t) : TmIn (xs tk) (opn ws) none where
  nl := by have := xs_len tk; omega
  wl := by have := List.length_filter_le (fun w : Told => decide (w.rs ≠ [])) ws; have := W.len; unfold opn; omega
  nk := fun n hn => (hk _ (xs_kinds hn)).kd
  kd := fun s h => sg_kd W (by
    rcases h with h | ⟨w, hw, e⟩ | ⟨w, e, _⟩
    · exact .inl h
    · exact .inr ⟨w, (opn_in hw).1, e⟩
    · cases e)
  os := fun w e => by cases e
  ol := fun w e => by cases e
  oa := fun w e => by cases e
  on := fun w e => by cases e
theorem tmin_fall {ws : List Told} (W : WsOk ws) {tk : List Str} (hz : tk.length ≤ 3) (hk : ∀ t ∈ tk, K3 t) {gv f : Str} (hg : K3 gv) (hf : f ∈ fnm) (hn : f ∉ ws.map Told.f) {a : Nat} {k : Str} (ha : tk[a]? = some k) {m : Str × List Str} (hm : m ∈ mks k) :
    TmIn (fns tk a m.2) (opn ws) (some (ownOf f tk gv a m.2)) where
  nl := by have := xs_len tk; have := ys_len m.2; unfold fns; simp only [List.length_append, List.length_take, List.length_drop]; omega
  wl := by have := List.length_filter_le (fun w : Told => decide (w.rs ≠ [])) ws; have := W.len; unfold opn; omega
  nk := fun n hn => by
    rcases fns_in hn with h | h
    · exact (hk _ (xs_kinds h)).kd
    · exact ((mks_K m hm).2.1 _ (ys_kinds h)).kd
  kd := fun s h => by
    rcases h with h | ⟨w, hw, e⟩ | ⟨w, e, _, e2⟩
    · exact sg_kd W (.inl h)
    · exact sg_kd W (.inr ⟨w, (opn_in hw).1, e⟩)
    · cases e; subst e2; exact ⟨hz, hg.kd, fun t ht => (hk t ht).kd⟩
  os := fun w e s h hs => by
    cases e
    rcases h with ⟨_, h⟩ | ⟨w, hw, e⟩ | ⟨w, e, hne, e2⟩
    · exact absurd (by rw [hs]; exact hf) (mks_K _ h).2.2.1
    · exfalso
      apply hn
      have hs' : s.1 = f := hs
      rw [← hs', ← e]
      exact List.mem_map.mpr ⟨w, (opn_in hw).1, rfl⟩
    · cases e; subst e2; exact ⟨rfl, hne⟩
  ol := fun w e => by
    cases e
    have := List.length_filter_le (fun n : Nm => decide (some n.2 = tk[a]?)) (ys m.2)
    have := ys_len m.2
    show ((ys m.2).filter _).length ≤ 50
    omega
  oa := fun w e => by cases e; exact (List.getElem?_eq_some_iff.mp ha).1
  on := fun w e n hn => by
    cases e
    obtain ⟨h1, h2⟩ := List.mem_filter.mp hn
    exact ⟨List.mem_append_right _ h1, (of_decide_eq_true h2).symm⟩
theorem three_ok {r : Nat} {a c : Int} {b : Nat} {h : AH} (e : h[r]? = some (src a c)) (ha : 0 ≤ a) (hc : 0 ≤ c) {P : PV → AH → Prop} (q : ∀ k a' c', K3 k → 0 ≤ a' → 0 ≤ c' → P (.str k) (h.set r (src a' c'))) :
    (f__law_take [.ref r, .int 3] b h).sat fun v h' => ∃ x, ixP h' (.lst [.str "bit", .str "num", .str "row"]) v = some x ∧ P x h' := by
  refine (take_ok e (by decide) (by decide) ha hc).mono ?_
  rintro v h' ⟨d, a', c', rfl, d0, d1, ha', hc', rfl⟩
  have : d = 0 ∨ d = 1 ∨ d = 2 := by omega
  rcases this with rfl | rfl | rfl
  · exact ⟨_, rfl, q _ a' c' (.inl rfl) ha' hc'⟩
  · exact ⟨_, rfl, q _ a' c' (.inr (.inl rfl)) ha' hc'⟩
  · exact ⟨_, rfl, q _ a' c' (.inr (.inr rfl)) ha' hc'⟩
end K72
end
section
set_option Elab.async false
set_option linter.all false
set_option maxRecDepth 100000
namespace K72
open PySem Mn
local macro_rules
  | `(tactic| simp_arith [$ls,*]) => `(tactic| simp only [sat_ok, sat_bad, sat_bind, sat_C, sat_nil, sat_cons, sat_var, sat_tup, sat_lst, sat_mkL, sat_op2, sat_opL, sat_call, sat_att, sat_meth, sat_tv, sat_and, sat_or, sat_not, sat_yes, sat_andV, sat_orV, sat_notV, sat_ifE, sat_seq, sat_dnx, sat_ret, sat_retN, sat_exp, sat_set, sat_if, sat_never, sat_unp, sat_lset, sat_dput, sat_fset, sat_aug, sat_for, sat_comp, sat_fI, sat_sub, sat_div, sat_mod, sat_addI, sat_mulI, sat_addL, sat_addT, sat_addS, sat_ix, sat_in, sat_is, sat_isnot, sat_len, sat_pow, sat_bm, sat_sl, sat_part, sat_nopart, sat_eq, sat_ne, sat_seqI, seqI_lst, seqI_tup, ix_tup, ix_lst, ix_scr, atI_0, atI_1, atI_2, atI_3, atI_4, dat_str, dat_int, dat_non, dat_nil, eq_str, eq_int, PV.isN, fnE, List.map_cons, List.map_nil, List.length_cons, List.length_nil, Nat.reduceAdd, Nat.reduceSub, List.reduceReplicate, List.cons_append, List.nil_append, List.append_nil, List.getElem?_cons_succ, List.getElem?_cons_zero, List.set_cons_succ, List.set_cons_zero, Option.some.injEq, PV.bl.injEq, PV.int.injEq, exists_eq_left', exists_eq_left, decide_eq_true_eq, Bool.not_eq_true', Nat.reduceLeDiff, true_and, and_true, Bool.false_eq_true, if_true, if_false, gt_iff_lt, ge_iff_le, reduceCtorEq, false_and, and_false, exists_false, Bool.not_true, Bool.not_false, sat_rng1, sat_rng2, sat_zip, sat_zipL, sat_listOf, sat_tupOf, sat_all, sat_any, sat_isi, sat_make, sat_dic0, seqOf_lst, seqOf_tup, lstOf_lst, lenP_lst, lenP_tup, srcP_lst, srcP_tup, tyP_str, tyP_tup, tyP_lst, tyP_int, tyP_non, Option.bind_some, cut_to, cut_from, cut_toT, cut_fromT, wipeE, $ls,*])
theorem TOk.rdep {prev : List Told} {w : Told} (T : TOk prev w) : Tm.deps w.rs ≤ 3 := by
  refine deps_le.mpr fun t ht => ?_
  have q := T.rs
  unfold RsOk at q
  split at q
  · rcases q with e | ⟨u, e, _, d, _⟩
    · rw [e] at ht; cases ht
    · rw [e] at ht; rw [List.mem_singleton.mp ht]; exact d
  · obtain ⟨k, _, hl, F⟩ := q
    obtain ⟨i, e⟩ := List.mem_iff_getElem?.mp ht
    have hi : i < (mks k).length := by rw [← hl]; exact (List.getElem?_eq_some_iff.mp e).1
    exact (F i t _ e (List.getElem?_eq_getElem hi)).2.1
theorem work_ok {ws : List Told} (W : WsOk ws) {f : Str} (hf : f ∈ fnm) (hn : f ∉ ws.map Told.f) {r q : Nat} {a c : Int} (b : Nat) {h : AH} (e : h[r]? = some (src a c)) (eq : h[q]? = some (.lst (ws.map Told.enc))) (hrq : r ≠ q) (ha : 0 ≤ a) (hc : 0 ≤ c) :
    (f__law_work [.ref r, .str f, .ref q] b h).sat fun v h' => ∃ w a' c', v = w.enc ∧ w.f = f ∧ TOk ws w ∧ 0 ≤ a' ∧ 0 ≤ c' ∧ h' = h.set r (src a' c') := by
  have hr : r < h.length := (List.getElem?_eq_some_iff.mp e).1
  have er : ∀ x : AO, (h.set r x)[r]? = some x := fun x => List.getElem?_set_self hr
  have eqs : ∀ x : AO, (h.set r x)[q]? = some (.lst (ws.map Told.enc)) := fun x => by rw [List.getElem?_set_ne hrq]; exact eq
  have ss : ∀ x y : AO, (h.set r x).set r y = h.set r y := fun x y => List.set_set ..
  unfold f__law_work
  rw [sat_fn]
  unfold d__law_work
  try simp_arith []
  refine (take_ok e (by decide) (by decide) ha hc).mono ?_
  rintro v h1 ⟨d, a1, c1, rfl, d0, d1, ha1, hc1, rfl⟩
  try simp_arith []
  refine ⟨_, rfl, ⟨by omega, by omega⟩, ?_⟩
  refine compL_sat _ _ _ _ (fun i acc h' => ∃ (tk : List Str) (a c : Int), acc = tk.map PV.str ∧ tk.length = i ∧ (∀ t ∈ tk, K3 t) ∧ 0 ≤ a ∧ 0 ≤ c ∧ h' = h.set r (src a c)) ?turn ?fin _ 0 [] _ (Nat.add_zero _) ⟨[], a1, c1, rfl, rfl, by simp, ha1, hc1, rfl⟩
  case turn =>
    rintro i acc h' hi ⟨tk, a2, c2, rfl, hl, hk, ha2, hc2, rfl⟩
    refine ⟨_, _, rfl, rfl, ?_⟩
    try simp_arith []
    exact three_ok (er _) ha2 hc2 fun k a' c' k3 ha' hc' => ⟨tk ++ [k], a', c', by simp, by simp [hl], fun t ht => by
      rcases List.mem_append.mp ht with z | z
      · exact hk t z
      · rw [List.mem_singleton.mp z]; exact k3, ha', hc', ss _ _⟩
  case fin =>
    rintro acc h' ⟨tk, a2, c2, rfl, hl, hk, ha2, hc2, rfl⟩
    have hz : tk.length ≤ 3 := by rw [hl]; show (1 + d).toNat ≤ 3; omega
    have hp : 0 < tk.length := by rw [hl]; show 0 < (1 + d).toNat; omega
    refine ⟨rfl, ?_⟩
    try simp_arith []
    refine three_ok (er _) ha2 hc2 fun gv a3 c3 g3 ha3 hc3 => ?_
    try simp_arith [ss]
    refine (take_ok (er _) (by decide) (by decide) ha3 hc3).mono ?_
    rintro v h1 ⟨s, a4, c4, rfl, s0, s1, ha4, hc4, rfl⟩
    try simp_arith [ss]
    refine ⟨_, rfl, ⟨by simp; omega, by simp⟩, ?_⟩
    refine compL_rg _ _ _ _ _ (fun _ => true) (fun i => nmV (("x" : Str) ++ al i, tk.getD i "")) (fun i hi => ?_) ?_
    · have hi' : i < tk.length := by simpa using hi
      refine ⟨_, rfl, ⟨rfl, rfl⟩, fun _ => ?_⟩
      simp_arith [Int.zero_add]
      refine ⟨_, abc_ix (by omega), ?_⟩
      simp_arith [atI_nat, List.getElem?_map, List.getElem?_eq_getElem hi']
      refine ⟨by rw [al_len]; decide, _, rfl, ?_⟩
      simp only [List.getD, List.getElem?_eq_getElem hi', Option.getD_some]
      rfl
    · rw [filter_yes]
      rw [show (Int.toNat (((tk.map PV.str).length : Nat) : Int)) = tk.length by simp]
      rw [xs_range hz (fun i hi => by simp [List.getD, List.getElem?_eq_getElem hi])]
      refine ⟨_, seqI_ref (eqs _), ?_⟩
      refine compL_it _ _ _ _ ws Told.enc (fun w => decide (w.rs ≠ [])) Told.enc (by show (ws.map Told.enc).length = _; simp) (itN_get (eqs _)) (itN_fin (eqs _)) (fun w hw => ?_) ?_
      · obtain ⟨prev, T⟩ := W.tok hw
        refine ⟨_, rfl, ?_, fun _ => ?_⟩
        · unfold Told.enc
          simp_arith [dat_tms (Nat.le_trans T.rdep (by decide)), lst_eq_nil, List.map_eq_nil_iff]
          simp
        · simp_arith []
      · rw [show (ws.filter fun w => decide (w.rs ≠ [])) = opn ws from rfl]
        try simp_arith []
        have k3 : ∀ {k : Str}, k ∈ tk → Kd k := fun hm => (hk _ hm).kd
        have te := fun (o : Option Own) (T : TmIn (xs tk) (opn ws) o) => term_ok T (r := r) 6 2 gv a4 c4 h.length _ (by decide) g3.kd (er _) ha4 hc4
        by_cases z0 : s = 0
        · simp only [z0, if_true]
          rw [popS_same (by simp)]
          exact ⟨⟨f, tk, gv, none, []⟩, a4, c4, rfl, rfl, ⟨hz, fun (z : tk = []) => by rw [z] at hp; simp at hp, .inl ⟨hk, g3⟩, g3.kd, .inl rfl⟩, ha4, hc4, rfl⟩
        simp only [z0, if_false]
        by_cases z1 : s = 1
        · simp only [z1, if_true]
          refine (te none (tmin_plain W hk)).mono ?_
          rintro v h5 ⟨t, a5, c5, rfl, w1, w2, w3, ha5, hc5, rfl⟩
          rw [ss, popS_same (by simp)]
          exact ⟨⟨f, tk, gv, none, [t]⟩, a5, c5, rfl, rfl, ⟨hz, fun (z : tk = []) => by rw [z] at hp; simp at hp, .inl ⟨hk, g3⟩, g3.kd, .inr ⟨t, rfl, w1, w2, w3⟩⟩, ha5, hc5, rfl⟩
        simp only [z1, if_false]
        refine (take_ok (er _) (by simp; omega) (by simp; omega) ha4 hc4).mono ?_
        rintro v h1 ⟨p, a5, c5, rfl, p0, p1, ha5, hc5, rfl⟩
        rw [ss]
        obtain ⟨p, rfl⟩ : ∃ q : Nat, p = q := ⟨p.toNat, by omega⟩
        have hp' : p < tk.length := by simp at p1; omega
        refine ⟨.str tk[p], by rw [ix_lst, atI_nat, List.getElem?_map, List.getElem?_eq_getElem hp']; rfl, ?_⟩
        simp only [eq_sat (makers_eq (k3 (List.getElem_mem hp')) _ _), mksV]
        refine ⟨_, rfl, ?_⟩
        let env := fun (e10 e11 e12 e13 : Option PV) => ([some (PV.ref r), some (PV.str f), some (PV.ref q), some (PV.lst (List.map PV.str tk)), some (PV.str gv),
          some (PV.int s), some (PV.lst (List.map nmV (xs tk))), some (PV.lst (List.map Told.enc (opn ws))),
          some (PV.int (p : Nat)), some (PV.ref h.length), e10, e11, e12, e13, none, none, none] : EnvP)
        refine forL_sat _ _ _ (fun i e h' => ∃ (rs : List Tm) (a c : Int) (e10 e11 e12 e13 : Option PV), rs.length = i ∧ FalOk ws f tk gv p tk[p] rs ∧ 0 ≤ a ∧ 0 ≤ c ∧ e = env e10 e11 e12 e13 ∧ h' = h.set r (src a c) ++ [.lst (rs.map Tm.enc)]) ?turn2 ?fin2 _ 0 _ _ (Nat.add_zero _)
          ⟨[], a5, c5, none, none, none, none, rfl, fun i t m e1 _ => by simp at e1, ha5, hc5, by simp [env], rfl⟩
        case turn2 =>
          rintro i e2 hh hi ⟨rs, a6, c6, e10, e11, e12, e13, hl6, hF, ha6, hc6, rfl, rfl⟩
          have hi' : i < (mks tk[p]).length := by
            have z : i < ((mks tk[p]).map fun m => PV.tup [PV.str m.1, PV.lst (m.2.map PV.str)]).length := hi
            rwa [List.length_map] at z
          have hm := List.getElem_mem hi'
          generalize hme : (mks tk[p])[i] = m at hm
          obtain ⟨q1, q2, _⟩ := mks_K m hm
          refine ⟨.tup [.str m.1, .lst (m.2.map .str)], _, ?_, rfl, ?_⟩
          · show (((mks tk[p]).map fun m => PV.tup [PV.str m.1, PV.lst (m.2.map PV.str)])[i]?) = _
            rw [List.getElem?_map, List.getElem?_eq_getElem hi', hme]; rfl
          · simp only [env]
            simp_arith []
            refine ⟨_, rfl, ⟨by simp; omega, by simp⟩, ?_⟩
            refine compL_rg _ _ _ _ _ (fun _ => true) (fun i => nmV (("y" : Str) ++ al i, m.2.getD i "")) (fun j hj => ?_) ?_
            · have hj' : j < m.2.length := by simpa using hj
              refine ⟨_, rfl, ⟨rfl, rfl⟩, fun _ => ?_⟩
              simp_arith [Int.zero_add]
              refine ⟨_, ab_ix (by omega), ?_⟩
              simp_arith [atI_nat, List.getElem?_map, List.getElem?_eq_getElem hj']
              refine ⟨by rw [al_len]; decide, _, rfl, ?_⟩
              simp only [List.getD, List.getElem?_eq_getElem hj', Option.getD_some]
              rfl
            · rw [filter_yes]
              rw [show (Int.toNat (((m.2.map PV.str).length : Nat) : Int)) = m.2.length by simp]
              rw [ys_range q1 (fun i hi => by simp [List.getD, List.getElem?_eq_getElem hi])]
              try simp_arith []
              refine compL_typ _ _ _ (ys m.2) nmV (fun n => decide (some n.2 = tk[p]?)) nmV (fun n hn => ?_) ?_
              · refine ⟨_, rfl, ?_, fun _ => ?_⟩
                · unfold nmV Tm.enc
                  simp_arith [atI_nat, List.getElem?_map, List.getElem?_eq_getElem hp']
                  exact ⟨_, rfl, _, rfl, by rw [eq_str]⟩
                · simp_arith []
              · have el : (h.set r (src a6 c6) ++ [AO.lst (rs.map Tm.enc)])[h.length]? = some (.lst (rs.map Tm.enc)) := by
                  rw [List.getElem?_append_right (by simp)]; simp
                have er6 : (h.set r (src a6 c6) ++ [AO.lst (rs.map Tm.enc)])[r]? = some (src a6 c6) := by
                  rw [List.getElem?_append_left (by simpa using hr), List.getElem?_set_self hr]
                try simp_arith []
                refine ⟨isL_ref el, ?_⟩
                rw [show ((p : Int) + 1) = ((p + 1 : Nat) : Int) by omega, cut_from]
                have L1 := xs_len tk
                have L2 := ys_len m.2
                simp_arith []
                refine ⟨by simp only [List.length_take, List.length_drop, List.length_map]; omega, by simp only [List.length_append, List.length_take, List.length_drop, List.length_map]; omega, ?_⟩
                rw [show List.take p ((xs tk).map nmV) ++ List.drop (p + 1) ((xs tk).map nmV) ++ (ys m.2).map nmV = (fns tk p m.2).map nmV by
                  unfold fns; simp [List.map_take, List.map_drop]]
                refine (term_ok (tmin_fall W hz hk g3 hf hn (List.getElem?_eq_getElem hp') hm) (r := r) 6 2 gv a6 c6 h.length _ (by decide) g3.kd er6 ha6 hc6).mono ?_
                rintro v h7 ⟨t, a7, c7, rfl, w1, w2, w3, ha7, hc7, rfl⟩
                have es : (h.set r (src a6 c6) ++ [AO.lst (rs.map Tm.enc)]).set r (src a7 c7) = h.set r (src a7 c7) ++ [AO.lst (rs.map Tm.enc)] := by
                  rw [List.set_append_left _ _ (by simpa using hr), List.set_set]
                have el7 : (h.set r (src a7 c7) ++ [AO.lst (rs.map Tm.enc)])[h.length]? = some (.lst (rs.map Tm.enc)) := by
                  rw [List.getElem?_append_right (by simp)]; simp
                rw [es, append_ref el7]
                have mk2 := mks_len tk[p]
                refine ⟨⟨by simp; omega, okW_pure (low_dat _ (enc_dat t) 0)⟩, ?_⟩
                refine ⟨rs ++ [t], a7, c7, _, _, _, _, by simp [hl6], fun j u m' e1 e2 => ?_, ha7, hc7, rfl, ?_⟩
                · rcases Nat.lt_trichotomy j i with z | z | z
                  · rw [List.getElem?_append_left (by omega)] at e1
                    exact hF j u m' e1 e2
                  · subst z
                    rw [List.getElem?_append_right (by omega), hl6, Nat.sub_self] at e1
                    cases e1
                    rw [List.getElem?_eq_getElem hi', hme] at e2
                    cases e2
                    exact ⟨w1, w2, w3⟩
                  · rw [List.getElem?_eq_none (by simp; omega)] at e1; cases e1
                · rw [List.set_append_right _ _ (by simp), List.map_append]
                  simp
        case fin2 =>
          rintro e2 hh ⟨rs, a6, c6, e10, e11, e12, e13, hl6, hF, ha6, hc6, rfl, rfl⟩
          refine ⟨rfl, ?_⟩
          simp only [env]
          try simp_arith []
          have hl7 : rs.length = (mks tk[p]).length := by rw [hl6]; exact List.length_map ..
          have el : (h.set r (src a6 c6) ++ [AO.lst (rs.map Tm.enc)])[h.length]? = some (.lst (rs.map Tm.enc)) := by
            rw [List.getElem?_append_right (by simp)]; simp
          have lows : PV.lowL h.length (rs.map Tm.enc) = true := PV.lowL_iff.mpr fun x hx => by
            obtain ⟨t, _, rfl⟩ := List.mem_map.mp hx
            exact low_dat _ (enc_dat t) _
          have lowt : PV.lowL h.length (tk.map PV.str) = true := PV.lowL_iff.mpr fun x hx => by
            obtain ⟨t, _, rfl⟩ := List.mem_map.mp hx
            rfl
          refine (popS_rz (by simp) (rz_tupRef (f := 5) (xs := [.str f, .lst (tk.map .str), .str gv, .int (p : Nat)]) (by simp [PV.lowL, PV.low, lowt]) (Nat.le_refl _) el lows)).mpr ?_
          refine ⟨⟨f, tk, gv, some p, rs⟩, a6, c6, rfl, rfl, ⟨hz, fun (z : tk = []) => by rw [z] at hp; simp at hp, .inl ⟨hk, g3⟩, g3.kd, ⟨tk[p], List.getElem?_eq_getElem hp', hl7, hF⟩⟩, ha6, hc6, ?_⟩
          rw [List.take_append_of_le_length (by simp), List.take_of_length_le (by simp)]
def wGrow : Told := ⟨"grow", ["thing"], "thing", none, []⟩
def wSeen : Told := ⟨"seen", ["thing"], "num", none, []⟩
theorem ws0 : WsOk [wGrow, wSeen] where
  nm := rfl
  len := by decide
  ok := fun i w e => by
    match i, e with
    | 0, e => cases e; exact ⟨by decide, by decide, .inr ⟨rfl, rfl, rfl⟩, by simp [Kd, wGrow], .inl rfl⟩
    | 1, e => cases e; exact ⟨by decide, by decide, .inr ⟨rfl, rfl, rfl⟩, by simp [Kd, wSeen], .inl rfl⟩
    | n + 2, e => simp at e
theorem fnm_new : ∀ n, n < 6 → fnm.getD n "" ∉ fnm.take n ∧ fnm.getD n "" ∈ fnm ∧ fnm.take n ++ [fnm.getD n ""] = fnm.take (n + 1) := by
  intro n hn
  rcases (by omega : n = 0 ∨ n = 1 ∨ n = 2 ∨ n = 3 ∨ n = 4 ∨ n = 5) with rfl | rfl | rfl | rfl | rfl | rfl <;> decide
theorem WsOk.push {ws : List Told} (W : WsOk ws) {w : Told} (T : TOk ws w) (hz : ws.length < 6) (hf : w.f = fnm.getD ws.length "") : WsOk (ws ++ [w]) where
  nm := by rw [List.map_append, W.nm, List.map_cons, hf, List.map_nil, (fnm_new _ hz).2.2]; simp
  len := by simp; omega
  ok := fun i v e => by
    rcases Nat.lt_trichotomy i ws.length with z | z | z
    · rw [List.getElem?_append_left z] at e
      rw [List.take_append_of_le_length (by omega)]
      exact W.ok i v e
    · subst z
      rw [List.getElem?_append_right (Nat.le_refl _), Nat.sub_self] at e
      cases e
      rw [List.take_left']
      · exact T
      · rfl
    · rw [List.getElem?_eq_none (by simp; omega)] at e; cases e
theorem ws_low (n : Nat) (ws : List Told) : PV.lowL n (ws.map Told.enc) = true := PV.lowL_iff.mpr fun x hx => by
  obtain ⟨w, _, rfl⟩ := List.mem_map.mp hx
  have lows : PV.lowL n (w.rs.map Tm.enc) = true := PV.lowL_iff.mpr fun x hx => by
    obtain ⟨t, _, rfl⟩ := List.mem_map.mp hx
    exact low_dat _ (enc_dat t) _
  have lowt : PV.lowL n (w.tk.map PV.str) = true := PV.lowL_iff.mpr fun x hx => by
    obtain ⟨t, _, rfl⟩ := List.mem_map.mp hx
    rfl
  have la : (atV w.at_).low n = true := by cases w.at_ <;> rfl
  simp [Told.enc, PV.low, PV.lowL, lows, lowt, la]
theorem works_ok {r : Nat} {a c : Int} (b : Nat) {h : AH} (e : h[r]? = some (src a c)) (ha : 0 ≤ a) (hc : 0 ≤ c) :
    (f__law_works [.ref r] b h).sat fun v h' => ∃ ws a' c', v = .lst (ws.map Told.enc) ∧ WsOk ws ∧ 3 ≤ ws.length ∧ 0 ≤ a' ∧ 0 ≤ c' ∧ h' = h.set r (src a' c') := by
  have hr : r < h.length := (List.getElem?_eq_some_iff.mp e).1
  unfold f__law_works
  rw [sat_fn]
  unfold d__law_works
  simp_arith []
  have e1 : ∀ y, (h ++ [y])[r]? = some (src a c) := fun y => by rw [List.getElem?_append_left hr]; exact e
  refine (take_ok (e1 _) (by decide) (by decide) ha hc).mono ?_
  rintro v h1 ⟨d, a1, c1, rfl, d0, d1, ha1, hc1, rfl⟩
  obtain ⟨d, rfl⟩ : ∃ q : Nat, d = q := ⟨d.toNat, by omega⟩
  rw [List.set_append_left _ _ hr]
  simp only [sat_addI, sat_ok]
  rw [show ((1 : Int) + (d : Nat)) = ((d + 1 : Nat) : Int) by omega]
  refine ⟨_, rfl, ?_⟩
  rw [cut_to]
  simp_arith []
  refine forL_sat _ _ _ (fun i e h' => ∃ (ws : List Told) (a c : Int) (e2 : Option PV), WsOk ws ∧ ws.length = i + 2 ∧ 0 ≤ a ∧ 0 ≤ c ∧ e = [some (PV.ref r), some (PV.ref h.length), e2] ∧ h' = h.set r (src a c) ++ [.lst (ws.map Told.enc)]) ?turn ?fin _ 0 _ _ (Nat.add_zero _) ⟨[wGrow, wSeen], a1, c1, none, ws0, rfl, ha1, hc1, rfl, rfl⟩
  case turn =>
    rintro i e2 hh hi ⟨ws, a2, c2, ex, W, hl, ha2, hc2, rfl, rfl⟩
    have hi' : i < d + 1 := by
      have z : i < (List.take (d + 1) [PV.str "one", PV.str "two", PV.str "three", PV.str "four"]).length := hi
      rw [List.length_take] at z; omega
    have hd : d < 4 := by omega
    refine ⟨.str (fnm.getD ws.length ""), _, ?_, rfl, ?_⟩
    · show (List.take (d + 1) [PV.str "one", PV.str "two", PV.str "three", PV.str "four"])[i]? = _
      rw [List.getElem?_take_of_lt hi', hl]
      rcases (by omega : i = 0 ∨ i = 1 ∨ i = 2 ∨ i = 3) with rfl | rfl | rfl | rfl <;> rfl
    · simp_arith []
      have el : ∀ x, (h.set r x ++ [AO.lst (ws.map Told.enc)])[h.length]? = some (.lst (ws.map Told.enc)) := fun x => by
        rw [List.getElem?_append_right (by simp)]; simp
      have er2 : (h.set r (src a2 c2) ++ [AO.lst (ws.map Told.enc)])[r]? = some (src a2 c2) := by
        rw [List.getElem?_append_left (by simpa using hr), List.getElem?_set_self hr]
      refine ⟨isL_ref (el _), ?_⟩
      obtain ⟨f1, f2, _⟩ := fnm_new ws.length (by omega)
      refine (work_ok W f2 (by rw [W.nm]; exact f1) h.length er2 (el _) (by omega) ha2 hc2).mono ?_
      rintro v h3 ⟨w, a3, c3, rfl, hf, T, ha3, hc3, rfl⟩
      rw [List.set_append_left _ _ (by simpa using hr), List.set_set, append_ref (el _)]
      refine ⟨⟨by simp; omega, okW_pure ?_⟩, ?_⟩
      · have := ws_low 0 [w]
        simpa [PV.lowL] using this
      · refine ⟨ws ++ [w], a3, c3, _, W.push T (by omega) hf, by simp [hl], ha3, hc3, rfl, ?_⟩
        rw [List.set_append_right _ _ (by simp), List.map_append]
        simp
  case fin =>
    rintro e2 hh ⟨ws, a2, c2, ex, W, hl, ha2, hc2, rfl, rfl⟩
    refine ⟨rfl, ?_⟩
    simp_arith []
    have el : (h.set r (src a2 c2) ++ [AO.lst (ws.map Told.enc)])[h.length]? = some (.lst (ws.map Told.enc)) := by
      rw [List.getElem?_append_right (by simp)]; simp
    have lo : (PV.ref h.length).low h.length = false := by simp [PV.low]
    have rzr : rz 8 (h.set r (src a2 c2) ++ [AO.lst (ws.map Told.enc)]) h.length (.ref h.length) = some (.lst (ws.map Told.enc)) := by
      rw [rz]
      simp only [lo, el]
      simp [rzL, mapM_low (ws_low h.length ws)]
    refine (popS_rz (by simp) rzr).mpr ?_
    refine ⟨ws, a2, c2, rfl, W, ?_, ha2, hc2, ?_⟩
    · have z : (itS (List.take (d + 1) [PV.str "one", PV.str "two", PV.str "three", PV.str "four"])).n = min (d + 1) 4 := List.length_take ..
      rw [z] at hl; omega
    · rw [List.take_append_of_le_length (by simp), List.take_of_length_le (by simp)]
end K72
end
section
set_option Elab.async false
set_option linter.all false
set_option maxRecDepth 100000
namespace K72
open PySem Mn
local macro_rules
  | `(tactic| simp_arith [$ls,*]) => `(tactic| simp only [sat_ok, sat_bad, sat_bind, sat_C, sat_nil, sat_cons, sat_var, sat_tup, sat_lst, sat_mkL, sat_op2, sat_opL, sat_call, sat_att, sat_meth, sat_tv, sat_and, sat_or, sat_not, sat_yes, sat_andV, sat_orV, sat_notV, sat_ifE, sat_seq, sat_dnx, sat_ret, sat_retN, sat_exp, sat_set, sat_if, sat_never, sat_unp, sat_lset, sat_dput, sat_fset, sat_aug, sat_for, sat_comp, sat_fI, sat_sub, sat_div, sat_mod, sat_addI, sat_mulI, sat_addL, sat_addT, sat_addS, sat_ix, sat_in, sat_is, sat_isnot, sat_len, sat_pow, sat_bm, sat_sl, sat_part, sat_nopart, sat_eq, sat_ne, sat_seqI, seqI_lst, seqI_tup, ix_tup, ix_lst, ix_scr, atI_0, atI_1, atI_2, atI_3, atI_4, dat_str, dat_int, dat_non, dat_nil, eq_str, eq_int, PV.isN, fnE, List.map_cons, List.map_nil, List.length_cons, List.length_nil, Nat.reduceAdd, Nat.reduceSub, List.reduceReplicate, List.cons_append, List.nil_append, List.append_nil, List.getElem?_cons_succ, List.getElem?_cons_zero, List.set_cons_succ, List.set_cons_zero, Option.some.injEq, PV.bl.injEq, PV.int.injEq, exists_eq_left', exists_eq_left, decide_eq_true_eq, Bool.not_eq_true', Nat.reduceLeDiff, true_and, and_true, Bool.false_eq_true, if_true, if_false, gt_iff_lt, ge_iff_le, reduceCtorEq, false_and, and_false, exists_false, Bool.not_true, Bool.not_false, sat_rng1, sat_rng2, sat_zip, sat_zipL, sat_listOf, sat_tupOf, sat_all, sat_any, sat_isi, sat_make, sat_dic0, seqOf_lst, seqOf_tup, lstOf_lst, lenP_lst, lenP_tup, srcP_lst, srcP_tup, tyP_str, tyP_tup, tyP_lst, tyP_int, tyP_non, Option.bind_some, cut_to, cut_from, cut_toT, cut_fromT, wipeE, $ls,*])
/-! ## the ground as it stands -/
instance (k : Str) : Decidable (Kd k) := inferInstanceAs (Decidable (_ ∨ _ ∨ _ ∨ _))
theorem kit_ss : kitP "str" "str" = some true := by decide +kernel
theorem kit_tt : kitP "tuple" "tuple" = some true := by decide +kernel
theorem kit_ll : kitP "list" "list" = some true := by decide +kernel
theorem kit_ii : kitP "int" "int" = some true := by decide +kernel
theorem kit_ib : kitP "int" "bool" = some false := by decide +kernel
def fldN : List Str := ["makers_row", "takes_row", "gives_row", "maker_names", "falls_row", "rights_row"]
def mkSigs : List Sig := [("off", [], "bit"), ("on", [], "bit"), ("zero", [], "num"), ("next", ["num"], "num"), ("none", [], "row"), ("put", ["num", "row"], "row")]
def sigs (us : List Told) : List Sig := mkSigs ++ us.map Told.sig
def sKeys (us : List Told) : List L2.Key := (sigs us).map fun s => .inr s.1
def sTakes (us : List Told) : List PV := (sigs us).map fun s => .tup (s.2.1.map .str)
def sGives (us : List Told) : List PV := (sigs us).map fun s => .str s.2.2
def mKeys : List L2.Key := mkSigs.map fun s => .inr s.1
def mTrue : List PV := mkSigs.map fun _ => .bl true
def wKeys (us : List Told) : List L2.Key := us.map fun w => .inr w.f
def wAts (us : List Told) : List PV := us.map fun w => atV w.at_
def wRs (us : List Told) : List PV := us.map fun w => .lst (w.rs.map Tm.enc)
def kKeys : List L2.Key := [.inr "bit", .inr "num", .inr "row", .inr "thing"]
structure GOk (h : AH) (us : List Told) : Prop where
  self : h[1]? = some (.ins "Ground" fldN [.ref 2, .ref 3, .ref 4, .ref 5, .ref 6, .ref 7])
  mr : h[2]? = some (.dic kKeys [.ref 8, .ref 9, .ref 10, .ref 11])
  tr : h[3]? = some (.dic (sKeys us) (sTakes us))
  gr : h[4]? = some (.dic (sKeys us) (sGives us))
  mn : h[5]? = some (.dic mKeys mTrue)
  fr : h[6]? = some (.dic (wKeys us) (wAts us))
  rr : h[7]? = some (.dic (wKeys us) (wRs us))
  l0 : h[8]? = some (.lst [.str "off", .str "on"])
  l1 : h[9]? = some (.lst [.str "zero", .str "next"])
  l2 : h[10]? = some (.lst [.str "none", .str "put"])
  l3 : h[11]? = some (.lst [])
theorem GOk.app {h : AH} {us : List Told} (G : GOk h us) (x : AH) : GOk (h ++ x) us := by
  have hl : 11 < h.length := (List.getElem?_eq_some_iff.mp G.l3).1
  have z : ∀ i, i ≤ 11 → (h ++ x)[i]? = h[i]? := fun i hi => List.getElem?_append_left (by omega)
  exact ⟨by rw [z _ (by decide)]; exact G.self, by rw [z _ (by decide)]; exact G.mr, by rw [z _ (by decide)]; exact G.tr, by rw [z _ (by decide)]; exact G.gr, by rw [z _ (by decide)]; exact G.mn, by rw [z _ (by decide)]; exact G.fr, by rw [z _ (by decide)]; exact G.rr, by rw [z _ (by decide)]; exact G.l0, by rw [z _ (by decide)]; exact G.l1, by rw [z _ (by decide)]; exact G.l2, by rw [z _ (by decide)]; exact G.l3⟩
section
variable {h : AH} {us : List Told}
theorem GOk.cls (G : GOk h us) : clsOf h (.ref 1) = some (("Ground" : Str), fldN, [.ref 2, .ref 3, .ref 4, .ref 5, .ref 6, .ref 7]) := by unfold clsOf; simp only [G.self]
theorem GOk.att (G : GOk h us) {f : Str} {v : PV} (e : fldAt fldN [.ref 2, .ref 3, .ref 4, .ref 5, .ref 6, .ref 7] f = some v) {Q : PV → Prop} : (∃ c fs vs v, clsOf h (.ref 1) = some (c, fs, vs) ∧ okG c = true ∧ fldAt fs vs f = some v ∧ Q v) ↔ Q v := by
  rw [G.cls]
  constructor
  · rintro ⟨c, fs, vs, w, e1, _, e2, q⟩
    cases e1
    rw [e] at e2
    cases e2
    exact q
  · exact fun q => ⟨_, _, _, v, rfl, by decide, e, q⟩
theorem GOk.meth (G : GOk h us) {m : Str} {tab : Str → Option (Nat × Fn)} {np0 : Nat} {fn0 : Fn} (hm : m ∉ fldN) (ht : tab "Ground" = some (np0, fn0)) {Q : Nat → Fn → Prop} : (∃ c fs vs np fn, clsOf h (.ref 1) = some (c, fs, vs) ∧ m ∉ fs ∧ tab c = some (np, fn) ∧ Q np fn) ↔ Q np0 fn0 := by
  rw [G.cls]
  constructor
  · rintro ⟨c, fs, vs, np, fn, e1, _, e2, q⟩
    cases e1
    rw [ht] at e2
    cases e2
    exact q
  · exact fun q => ⟨_, _, _, _, _, rfl, hm, ht, q⟩
theorem dic_ref {n : Nat} {ks : List L2.Key} {vs : List PV} (e : h[n]? = some (.dic ks vs)) : dicOf h (.ref n) = some (ks, vs) := by unfold dicOf; simp only [e]
theorem in_dic {n : Nat} {ks : List L2.Key} {vs : List PV} (e : h[n]? = some (.dic ks vs)) (x : Str) : inP h (.str x) (.ref n) = some (dGetP ks vs (.inr x)).isSome := by unfold inP; rw [dic_ref e]; rfl
theorem ix_dicR {n : Nat} {ks : List L2.Key} {vs : List PV} (e : h[n]? = some (.dic ks vs)) (x : Str) : ixP h (.ref n) (.str x) = dGetP ks vs (.inr x) := by unfold ixP; rw [dic_ref e]; rfl
theorem dGetP_map {α : Type} (kf : α → L2.Key) (vf : α → PV) (k : L2.Key) : ∀ xs : List α, dGetP (xs.map kf) (xs.map vf) k = (xs.find? fun x => decide (kf x = k)).map vf
  | [] => rfl
  | x :: xs => by
    simp only [List.map_cons, dGetP, List.find?_cons]
    by_cases z : kf x = k
    · simp [z]
    · simp [z, dGetP_map kf vf k xs]
theorem getK {x : Str} {vs : List PV} (hv : vs.length = 4) : (dGetP kKeys vs (.inr x)).isSome = decide (Kd x) := by
  rcases vs with _ | ⟨a, _ | ⟨b, _ | ⟨c, _ | ⟨d, _ | ⟨e, r⟩⟩⟩⟩⟩ <;> simp at hv
  unfold kKeys Kd
  simp only [dGetP, Sum.inr.injEq]
  by_cases h1 : ("bit" : Str) = x
  · simp [← h1]
  · by_cases h2 : ("num" : Str) = x
    · simp [← h2]; split <;> rfl
    · by_cases h3 : ("row" : Str) = x
      · simp [← h3]; (repeat' split) <;> rfl
      · by_cases h4 : ("thing" : Str) = x
        · simp [← h4]; (repeat' split) <;> rfl
        · have h1' : ¬ x = "bit" := fun e => h1 e.symm
          have h2' : ¬ x = "num" := fun e => h2 e.symm
          have h3' : ¬ x = "row" := fun e => h3 e.symm
          have h4' : ¬ x = "thing" := fun e => h4 e.symm
          simp [h1, h2, h3, h4, h1', h2', h3', h4']
theorem find_name {ss : List Sig} (nd : (ss.map (·.1)).Nodup) {s : Sig} (hs : s ∈ ss) : (ss.find? fun t => decide ((Sum.inr t.1 : L2.Key) = .inr s.1)) = some s := by
  induction ss with
  | nil => cases hs
  | cons t ss ih =>
    rw [List.find?_cons]
    simp only [List.map_cons, List.nodup_cons] at nd
    rcases List.mem_cons.mp hs with rfl | hs
    · simp
    · have ne : ¬ t.1 = s.1 := fun e => nd.1 (by rw [e]; exact List.mem_map.mpr ⟨s, hs, rfl⟩)
      have := ih nd.2 hs
      simp only [Sum.inr.injEq, ne, decide_false] at this ⊢
      exact this
theorem nd_all : (mkSigs.map (·.1) ++ fnm).Nodup := by decide
theorem WsOk.nd {us : List Told} (U : WsOk us) : ((sigs us).map (·.1)).Nodup := by
  have e : (sigs us).map (·.1) = mkSigs.map (·.1) ++ fnm.take us.length := by
    unfold sigs
    rw [List.map_append, List.map_map, ← U.nm]; rfl
  rw [e]
  exact nd_all.sublist (List.Sublist.append (List.Sublist.refl _) (List.take_sublist _ _))
theorem is_kind_eq (G : GOk h us) (x : Str) (b : Nat) : f_Ground_is_kind [.ref 1, .str x] b h = .ok (.bl (decide (Kd x))) h := by
  apply sat_eq_of
  unfold f_Ground_is_kind
  rw [sat_fn]
  unfold d_Ground_is_kind
  simp_arith [G.att (f := "makers_row") (v := .ref 2) rfl, in_dic G.mr, getK (vs := [.ref 8, .ref 9, .ref 10, .ref 11]) rfl, kit_ss]
  rw [popS_same rfl]
  exact ⟨by rw [Bool.false_xor], rfl⟩
theorem getM (x : Str) : (dGetP mKeys mTrue (.inr x)).isSome = decide (x ∈ mkSigs.map (·.1)) := by
  unfold mKeys mTrue
  rw [dGetP_map]
  rw [Option.isSome_map, Bool.eq_iff_iff]
  simp only [List.find?_isSome, decide_eq_true_eq, Sum.inr.injEq, List.mem_map]
theorem is_maker_eq (G : GOk h us) (x : Str) (b : Nat) : f_Ground_is_maker [.ref 1, .str x] b h = .ok (.bl (decide (x ∈ mkSigs.map (·.1)))) h := by
  apply sat_eq_of
  unfold f_Ground_is_maker
  rw [sat_fn]
  unfold d_Ground_is_maker
  simp_arith [G.att (f := "maker_names") (v := .ref 5) rfl, in_dic G.mn, kit_ss, getM]
  rw [popS_same rfl]
  exact ⟨by rw [Bool.false_xor], rfl⟩
theorem getW (x : Str) (f : Told → PV) : (dGetP (wKeys us) (us.map f) (.inr x)).isSome = decide (x ∈ us.map Told.f) := by
  unfold wKeys
  rw [dGetP_map, Option.isSome_map]
  rw [Bool.eq_iff_iff]
  simp only [List.find?_isSome, decide_eq_true_eq, Sum.inr.injEq, List.mem_map]
theorem is_work_eq (G : GOk h us) (x : Str) (b : Nat) : f_Ground_is_work [.ref 1, .str x] b h = .ok (.bl (decide (x ∈ us.map Told.f))) h := by
  apply sat_eq_of
  unfold f_Ground_is_work
  rw [sat_fn]
  unfold d_Ground_is_work
  simp_arith [G.att (f := "rights_row") (v := .ref 7) rfl, in_dic G.rr, kit_ss, wRs, getW]
  rw [popS_same rfl]
  exact ⟨by rw [Bool.false_xor], rfl⟩
theorem getS (U : WsOk us) {s : Sig} (hs : s ∈ sigs us) (f : Sig → PV) : dGetP (sKeys us) ((sigs us).map f) (.inr s.1) = some (f s) := by
  unfold sKeys
  rw [dGetP_map, find_name U.nd hs]; rfl
theorem takes_eq (G : GOk h us) (U : WsOk us) {s : Sig} (hs : s ∈ sigs us) (b : Nat) : f_Ground_takes [.ref 1, .str s.1] b h = .ok (.lst (s.2.1.map .str)) h := by
  apply sat_eq_of
  unfold f_Ground_takes
  rw [sat_fn]
  unfold d_Ground_takes
  simp_arith [G.att (f := "takes_row") (v := .ref 3) rfl, ix_dicR G.tr, sTakes, getS U hs]
  rw [popS_same rfl]
  exact ⟨rfl, rfl⟩
theorem gives_eq (G : GOk h us) (U : WsOk us) {s : Sig} (hs : s ∈ sigs us) (b : Nat) : f_Ground_gives [.ref 1, .str s.1] b h = .ok (.str s.2.2) h := by
  apply sat_eq_of
  unfold f_Ground_gives
  rw [sat_fn]
  unfold d_Ground_gives
  simp_arith [G.att (f := "gives_row") (v := .ref 4) rfl, ix_dicR G.gr, sGives, getS U hs]
  rw [popS_same rfl]
  exact ⟨rfl, rfl⟩
end
end K72
end
section
set_option Elab.async false
set_option linter.all false
set_option maxRecDepth 100000
namespace K72
open PySem Mn
local macro_rules
  | `(tactic| simp_arith [$ls,*]) => `(tactic| simp only [sat_ok, sat_bad, sat_bind, sat_C, sat_nil, sat_cons, sat_var, sat_tup, sat_lst, sat_mkL, sat_op2, sat_opL, sat_call, sat_att, sat_meth, sat_tv, sat_and, sat_or, sat_not, sat_yes, sat_andV, sat_orV, sat_notV, sat_ifE, sat_seq, sat_dnx, sat_ret, sat_retN, sat_exp, sat_set, sat_if, sat_never, sat_unp, sat_lset, sat_dput, sat_fset, sat_aug, sat_for, sat_comp, sat_fI, sat_sub, sat_div, sat_mod, sat_addI, sat_mulI, sat_addL, sat_addT, sat_addS, sat_ix, sat_in, sat_is, sat_isnot, sat_len, sat_pow, sat_bm, sat_sl, sat_part, sat_nopart, sat_eq, sat_ne, sat_seqI, seqI_lst, seqI_tup, ix_tup, ix_lst, ix_scr, atI_0, atI_1, atI_2, atI_3, atI_4, dat_str, dat_int, dat_non, dat_nil, eq_str, eq_int, PV.isN, fnE, List.map_cons, List.map_nil, List.length_cons, List.length_nil, Nat.reduceAdd, Nat.reduceSub, List.reduceReplicate, List.cons_append, List.nil_append, List.append_nil, List.getElem?_cons_succ, List.getElem?_cons_zero, List.set_cons_succ, List.set_cons_zero, Option.some.injEq, PV.bl.injEq, PV.int.injEq, exists_eq_left', exists_eq_left, decide_eq_true_eq, Bool.not_eq_true', Nat.reduceLeDiff, true_and, and_true, Bool.false_eq_true, if_true, if_false, gt_iff_lt, ge_iff_le, reduceCtorEq, false_and, and_false, exists_false, Bool.not_true, Bool.not_false, sat_rng1, sat_rng2, sat_zip, sat_zipL, sat_listOf, sat_tupOf, sat_all, sat_any, sat_isi, sat_make, sat_dic0, seqOf_lst, seqOf_tup, lstOf_lst, lenP_lst, lenP_tup, srcP_lst, srcP_tup, tyP_str, tyP_tup, tyP_lst, tyP_int, tyP_non, Option.bind_some, cut_to, cut_from, cut_toT, cut_fromT, wipeE, $ls,*])
section
variable {h : AH} {us : List Told}
def allN : List Str := fnm ++ mkSigs.map (·.1) ++ (["xa", "xb", "xc", "ya", "yb", "bit", "num", "row", "thing"] : List Str)
theorem told_d : ∀ x ∈ allN, ∀ (n : Nat) (h : AH), d_is_told_name (fnE 2 [.str x]) n h = .rt (.bl true) h := by
  intro x hx
  have e : allN = (["grow", "seen", "one", "two", "three", "four", "off", "on", "zero", "next", "none", "put", "xa", "xb", "xc", "ya", "yb", "bit", "num", "row", "thing"] : List Str) := rfl
  rw [e] at hx
  simp only [List.mem_cons, List.not_mem_nil, or_false] at hx
  rcases hx with rfl | rfl | rfl | rfl | rfl | rfl | rfl | rfl | rfl | rfl | rfl | rfl | rfl | rfl | rfl | rfl | rfl | rfl | rfl | rfl | rfl <;> exact fun n h => rfl
theorem told_eq {x : Str} (hx : x ∈ allN) (b : Nat) : f_is_told_name [.str x] b h = .ok (.bl true) h := by
  apply sat_eq_of
  unfold f_is_told_name
  rw [sat_fn, told_d x hx]
  show PopS _ _ _ _
  rw [popS_same rfl]
  exact ⟨rfl, rfl⟩
theorem enc_nm (x k : Str) : (Tm.nm x k).enc = .tup [.str "name", .str x, .str k] := rfl
theorem enc_mk (f : Str) (ps : List Tm) : (Tm.mk f ps).enc = .tup [.str "made", .str f, .tup (ps.map Tm.enc)] := by rw [Tm.enc, encs_map]
theorem enc_bd (n : Nat) : (Tm.bd n).enc = .tup [.str "bound", .int n] := rfl
theorem sig_work {s : Sig} (hs : s ∈ sigs us) : s.1 ∈ mkSigs.map (·.1) ∨ s.1 ∈ us.map Told.f := by
  rcases List.mem_append.mp hs with z | z
  · exact .inl (List.mem_map.mpr ⟨s, z, rfl⟩)
  · obtain ⟨w, hw, rfl⟩ := List.mem_map.mp z
    exact .inr (List.mem_map.mpr ⟨w, hw, rfl⟩)
theorem zip_get {xs ys : List PV} {i : Nat} {x y : PV} (e1 : xs[i]? = some x) (e2 : ys[i]? = some y) : (itZ (itS xs) (itS ys)).get h i = some (.tup [x, y]) := by
  show (match xs[i]?, ys[i]? with | some x, some y => some (PV.tup [x, y]) | _, _ => none) = _
  rw [e1, e2]
theorem s_mn : (("made" : Str) = "name") = False := by decide
theorem s_nm : (("name" : Str) = "made") = False := by decide
theorem s_bn : (("bound" : Str) = "name") = False := by decide
theorem s_nb : (("name" : Str) = "bound") = False := by decide
theorem s_mb : (("made" : Str) = "bound") = False := by decide
theorem s_bm : (("bound" : Str) = "made") = False := by decide
theorem kon_loop {rec : Fn} {ps : List Tm} {tk : List Str} {v1 v2 : Option PV} {b : Nat} {N : EnvP → AH → Prop} {V : PV → AH → Prop} (hl : ps.length = tk.length) (hr : ∀ (i : Nat) (p : Tm) (t : Str), ps[i]? = some p → tk[i]? = some t → ∀ b, rec [.ref 1, p.enc] b h = .ok (.str t) h) (fin : ∀ e3 e4, N [some (.ref 1), v1, v2, e3, e4] h) :
    (dForL (gT 2 (gC (gNm 3) (gC (gNm 4) gN))) (dSeq (dIf (dTv (dOp2 fNe (dCall rec 2 [] (dCons (dVar 0) (dCons (dVar 3) dNil))) (dVar 4))) (dSeq (dRet (dC PV.non)) dNx) dNx) dNx) (itZ (itS (ps.map Tm.enc)) (itS (tk.map PV.str))) (itZ (itS (ps.map Tm.enc)) (itS (tk.map PV.str))).n 0 [some (.ref 1), v1, v2, none, none] b h).sat N V := by
  refine forL_sat _ _ _ (fun i e h' => ∃ e3 e4, e = [some (.ref 1), v1, v2, e3, e4] ∧ h' = h) ?turn ?fin _ 0 _ _ (Nat.add_zero _) ⟨none, none, rfl, rfl⟩
  case turn =>
    rintro i e hh hi ⟨e3, e4, rfl, rfl⟩
    have hi' : i < ps.length := by
      have z : i < min (ps.map Tm.enc).length (tk.map PV.str).length := hi
      simp only [List.length_map] at z; omega
    have hi2 : i < tk.length := by omega
    refine ⟨.tup [ps[i].enc, .str tk[i]], _, zip_get (by rw [List.getElem?_map, List.getElem?_eq_getElem hi']; rfl) (by rw [List.getElem?_map, List.getElem?_eq_getElem hi2]; rfl), rfl, ?_⟩
    simp_arith [eq_sat (hr i _ _ (List.getElem?_eq_getElem hi') (List.getElem?_eq_getElem hi2) _)]
    rw [if_neg (by decide)]; exact ⟨_, _, rfl⟩
  case fin =>
    rintro e hh ⟨e3, e4, rfl, rfl⟩
    exact ⟨rfl, fin _ _⟩
theorem kon_ok (G : GOk h us) (U : WsOk us) {S : Sig → Prop} {M : Nm → Prop} {O : Str → List Tm → Prop} (hS : ∀ s, S s → s ∈ sigs us) (hM : ∀ n, M n → n.1 ∈ allN ∧ Kd n.2) : ∀ (m : Nat) (t : Tm) (k : Str) (b : Nat), t.dep ≤ m → Wk S M O t k → f_kind_or_none m [.ref 1, t.enc] b h = .ok (.str k) h
  | 0, t, k, b, d, w => by cases w <;> simp [Tm.dep] at d
  | m + 1, t, k, b, d, w => by
    apply sat_eq_of
    show (mkFn true 5 (d_kind_or_none (f_kind_or_none m)) _ b h).sat _
    rw [sat_fn]
    unfold d_kind_or_none
    cases w with
    | nm hm =>
      rename_i x
      obtain ⟨h1, h2⟩ := hM _ hm
      rw [enc_nm]
      simp_arith [kit_tt, eq_sat (told_eq h1 _), G.meth (m := "is_kind") (tab := mt_is_kind) (by decide) rfl, eq_sat (is_kind_eq G _ _)]
      have h2' : Kd k := h2
      rw [if_neg (by decide), if_pos h2', popS_same rfl]
      exact ⟨rfl, rfl⟩
    | mk hs hl ha ho =>
      rename_i f tk ps
      rw [enc_mk]
      simp_arith [s_mn, kit_tt, G.meth (m := "is_maker") (tab := mt_is_maker) (by decide) rfl, G.meth (m := "is_work") (tab := mt_is_work) (by decide) rfl, G.meth (m := "takes") (tab := mt_takes) (by decide) rfl, G.meth (m := "gives") (tab := mt_gives) (by decide) rfl,
        eq_sat (is_maker_eq G _ _), eq_sat (is_work_eq G _ _), eq_sat (takes_eq G U (hS _ hs) _), eq_sat (gives_eq G U (hS _ hs) _)]
      rw [if_neg (by decide), if_neg (by decide)]
      have dm : Tm.deps ps ≤ m := by simp only [Tm.dep] at d; omega
      have loop := fun (v1 v2 : Option PV) (b : Nat) (N : EnvP → AH → Prop) (V : PV → AH → Prop) => kon_loop (h := h) (rec := f_kind_or_none m) (ps := ps) (tk := tk) (v1 := v1) (v2 := v2) (b := b) (N := N) (V := V) hl (fun i p t e1 e2 b => kon_ok G U hS hM m p t b (deps_le.mp dm p (List.mem_of_getElem? e1)) (ha i p t e1 e2))
      have le : ((tk.map PV.str).length : Int) = ((ps.map Tm.enc).length : Int) := by simp [hl]
      by_cases z : f ∈ mkSigs.map (·.1)
      · rw [if_neg (by simp only [z]; decide), if_neg (by rw [decide_eq_true le]; decide)]
        refine ⟨_, _, _, _, rfl, rfl, rfl, loop _ _ _ _ _ fun e3 e4 => ?_⟩
        simp_arith [G.meth (m := "gives") (tab := mt_gives) (by decide) rfl, eq_sat (gives_eq G U (hS _ hs) _)]
        rw [popS_same rfl]
        exact ⟨rfl, rfl⟩
      · have z2 : f ∈ us.map Told.f := (sig_work (hS _ hs)).resolve_left z
        rw [if_pos (by simp only [z]; decide), if_neg (by simp only [z2]; decide), if_neg (by rw [decide_eq_true le]; decide)]
        refine ⟨_, _, _, _, rfl, rfl, rfl, loop _ _ _ _ _ fun e3 e4 => ?_⟩
        simp_arith [G.meth (m := "gives") (tab := mt_gives) (by decide) rfl, eq_sat (gives_eq G U (hS _ hs) _)]
        rw [popS_same rfl]
        exact ⟨rfl, rfl⟩
end
end K72
end
section
set_option Elab.async false
set_option linter.all false
set_option maxRecDepth 100000
namespace K72
open PySem Mn
local macro_rules
  | `(tactic| simp_arith [$ls,*]) => `(tactic| simp only [sat_ok, sat_bad, sat_bind, sat_C, sat_nil, sat_cons, sat_var, sat_tup, sat_lst, sat_mkL, sat_op2, sat_opL, sat_call, sat_att, sat_meth, sat_tv, sat_and, sat_or, sat_not, sat_yes, sat_andV, sat_orV, sat_notV, sat_ifE, sat_seq, sat_dnx, sat_ret, sat_retN, sat_exp, sat_set, sat_if, sat_never, sat_unp, sat_lset, sat_dput, sat_fset, sat_aug, sat_for, sat_comp, sat_fI, sat_sub, sat_div, sat_mod, sat_addI, sat_mulI, sat_addL, sat_addT, sat_addS, sat_ix, sat_in, sat_is, sat_isnot, sat_len, sat_pow, sat_bm, sat_sl, sat_part, sat_nopart, sat_eq, sat_ne, sat_seqI, seqI_lst, seqI_tup, ix_tup, ix_lst, ix_scr, atI_0, atI_1, atI_2, atI_3, atI_4, dat_str, dat_int, dat_non, dat_nil, eq_str, eq_int, PV.isN, fnE, List.map_cons, List.map_nil, List.length_cons, List.length_nil, Nat.reduceAdd, Nat.reduceSub, List.reduceReplicate, List.cons_append, List.nil_append, List.append_nil, List.getElem?_cons_succ, List.getElem?_cons_zero, List.set_cons_succ, List.set_cons_zero, Option.some.injEq, PV.bl.injEq, PV.int.injEq, exists_eq_left', exists_eq_left, decide_eq_true_eq, Bool.not_eq_true', Nat.reduceLeDiff, true_and, and_true, Bool.false_eq_true, if_true, if_false, gt_iff_lt, ge_iff_le, reduceCtorEq, false_and, and_false, exists_false, Bool.not_true, Bool.not_false, sat_rng1, sat_rng2, sat_zip, sat_zipL, sat_listOf, sat_tupOf, sat_all, sat_any, sat_isi, sat_make, sat_dic0, seqOf_lst, seqOf_tup, lstOf_lst, lenP_lst, lenP_tup, srcP_lst, srcP_tup, tyP_str, tyP_tup, tyP_lst, tyP_int, tyP_non, Option.bind_some, cut_to, cut_from, cut_toT, cut_fromT, wipeE, $ls,*])
inductive Sub : Tm → Tm → Prop where
  | refl (t : Tm) : Sub t t
  | part {u p : Tm} {f : Str} {ps : List Tm} : p ∈ ps → Sub u p → Sub u (.mk f ps)
theorem Sub.trans {a b c : Tm} (x : Sub a b) (y : Sub b c) : Sub a c := by
  induction y with
  | refl => exact x
  | part hp _ ih => exact .part hp ih
def things : Tm → List Tm
  | .mk _ ps => ps
  | _ => []
theorem size_things (t : Tm) : t.size = 1 + Tm.sizes (things t) := by
  cases t <;> simp [Tm.size, things, Tm.sizes]; omega
theorem sizes_cat : ∀ (ts us : List Tm), Tm.sizes (ts ++ us) = Tm.sizes ts + Tm.sizes us
  | [], us => by simp [Tm.sizes]
  | t :: ts, us => by simp only [List.cons_append, Tm.sizes, sizes_cat ts us]; omega
theorem len_sizes : ∀ ts : List Tm, ts.length ≤ Tm.sizes ts
  | [] => Nat.le_refl _
  | t :: ts => by
    have := len_sizes ts
    have := size_things t
    simp only [List.length_cons, Tm.sizes]; omega
section
variable {h : AH} {us : List Told}
theorem things_eq (t : Tm) (b : Nat) : f_things_within [t.enc] b h = .ok (.lst ((things t).map Tm.enc)) h := by
  apply sat_eq_of
  unfold f_things_within
  rw [sat_fn]
  unfold d_things_within
  cases t with
  | nm x k =>
    rw [enc_nm]
    simp_arith [s_nm]
    refine ⟨false, rfl, ?_⟩
    try simp_arith []
    refine ⟨false, rfl, ?_⟩
    try simp_arith []
    rw [popS_same rfl]
    exact ⟨rfl, rfl⟩
  | bd n =>
    rw [enc_bd]
    simp_arith [s_bm]
    refine ⟨false, rfl, ?_⟩
    try simp_arith []
    refine ⟨false, rfl, ?_⟩
    try simp_arith []
    rw [popS_same rfl]
    exact ⟨rfl, rfl⟩
  | mk f ps =>
    rw [enc_mk]
    try simp_arith []
    rw [popS_same rfl]
    exact ⟨rfl, rfl⟩
theorem low_tms (n : Nat) (ts : List Tm) : PV.lowL n (ts.map Tm.enc) = true := PV.lowL_iff.mpr fun x hx => by
  obtain ⟨t, _, rfl⟩ := List.mem_map.mp hx
  exact low_dat _ (enc_dat t) _
theorem extend_ref {n b : Nat} {xs ys : List PV} {P : PV → AH → Prop} (e : h[n]? = some (.lst xs)) : (fExtend (.ref n) [.lst ys] b h).sat P ↔ (xs.length + ys.length ≤ 16777216 ∧ okWs b n ys = true) ∧ P .non (h.set n (.lst (xs ++ ys))) := by
  show (R.sat (match h[n]? with
    | some (.lst xs) => (if (szOk (xs.length + ys.length) && okWs b n ys) = true then .ok .non (h.set n (.lst (xs ++ ys))) else .bad)
    | _ => .bad) P) ↔ _
  rw [e, ← szOk_le]
  simp only
  by_cases z : (szOk (xs.length + ys.length) && okWs b n ys) = true
  · rw [if_pos z]
    rw [Bool.and_eq_true] at z
    exact ⟨fun q => ⟨z, q⟩, fun q => q.2⟩
  · rw [if_neg z]
    rw [Bool.and_eq_true] at z
    exact ⟨fun q => q.elim, fun q => z q.1⟩
theorem okWs_pure {b n : Nat} {vs : List PV} (e : PV.lowL (n + 1) vs = true) : okWs b n vs = true := by unfold okWs; rw [e, Bool.or_true]
theorem sat_while {N : EnvP → AH → Prop} {V : PV → AH → Prop} (c : Dn Bool) (body : Ds) (m : Nat) {env : EnvP} {b : Nat} : True := trivial
theorem within_ok (t : Tm) (hz : t.size ≤ 300) (b : Nat) : (f_all_within [t.enc] b h).sat fun v h' => ∃ ts : List Tm, v = .lst (ts.map Tm.enc) ∧ ts.length = t.size ∧ (∀ u ∈ ts, Sub u t) ∧ h' = h := by
  unfold f_all_within
  rw [sat_fn]
  unfold d_all_within
  simp_arith []
  refine while_sat _ _ (fun k e h' => ∃ (ts : List Tm) (at_ : Nat), at_ ≤ ts.length ∧ k = Tm.sizes (ts.drop at_) ∧ at_ + k = t.size ∧ (∀ u ∈ ts, Sub u t) ∧ e = [some t.enc, some (.ref h.length), some (.int at_)] ∧ h' = h ++ [.lst (ts.map Tm.enc)]) ?turn 400 t.size _ _ (by omega) ⟨[t], 0, by simp, by simp [Tm.sizes], by simp, fun u hu => by rw [List.mem_singleton.mp hu]; exact .refl t, rfl, rfl⟩
  rintro k e h' ⟨ts, a, ha, hk, hs, sub, rfl, rfl⟩
  have el : (h ++ [AO.lst (ts.map Tm.enc)])[h.length]? = some (.lst (ts.map Tm.enc)) := by
    rw [List.getElem?_append_right (Nat.le_refl _)]; simp
  simp_arith [lenP_ref el]
  by_cases z : a < ts.length
  · have z' : (a : Int) < ((ts.map Tm.enc).length : Nat) := by simp; omega
    have dr : ts.drop a = ts[a] :: ts.drop (a + 1) := (List.drop_eq_getElem_cons z)
    rw [dr] at hk
    simp only [Tm.sizes] at hk
    have st := size_things ts[a]
    have ln := len_sizes (ts.drop (a + 1))
    have ln2 := len_sizes (things ts[a])
    rw [List.length_drop] at ln
    simp only [z', decide_true, if_true, ix_ref el, atI_nat, List.getElem?_map, List.getElem?_eq_getElem z]
    refine ⟨Tm.sizes (ts.drop (a + 1)) + Tm.sizes (things ts[a]), by omega, isL_ref el, _, rfl, ?_⟩
    rw [eq_sat (things_eq _ _), extend_ref el]
    refine ⟨⟨by simp only [List.length_map]; omega, okWs_pure (low_tms _ _)⟩, ?_⟩
    refine ⟨ts ++ things ts[a], a + 1, by simp; omega, ?_, by omega, fun u hu => ?_, rfl, ?_⟩
    · rw [List.drop_append_of_le_length (by omega), sizes_cat]
    · rcases List.mem_append.mp hu with q | q
      · exact sub u q
      · refine Sub.trans ?_ (sub _ (List.getElem_mem z))
        cases e : ts[a] with
        | mk f ps => rw [e] at q; exact .part q (.refl _)
        | nm => rw [e] at q; cases q
        | bd => rw [e] at q; cases q
    · rw [List.set_append_right _ _ (Nat.le_refl _), List.map_append]
      simp
  · have z' : ¬ (a : Int) < ((ts.map Tm.enc).length : Nat) := by simp; omega
    simp only [z', decide_false, Bool.false_eq_true, if_false]
    have lo : (PV.ref h.length).low h.length = false := by simp [PV.low]
    have rzr : rz 8 (h ++ [AO.lst (ts.map Tm.enc)]) h.length (.ref h.length) = some (.lst (ts.map Tm.enc)) := by
      rw [rz]
      simp only [lo, el]
      simp [rzL, mapM_low (low_tms h.length ts)]
    refine (popS_rz (by simp) rzr).mpr ?_
    refine ⟨ts, rfl, ?_, sub, by simp⟩
    rw [List.drop_of_length_le (by omega)] at hk
    simp only [Tm.sizes] at hk
    omega
theorem signs_ok (t : Tm) (hz : t.size ≤ 300) (b : Nat) : f_signs_of [t.enc] b h = .ok (.int (t.size : Nat)) h := by
  apply sat_eq_of
  unfold f_signs_of
  rw [sat_fn]
  unfold d_signs_of
  simp_arith []
  refine (within_ok t hz _).mono ?_
  rintro v h' ⟨ts, rfl, hl, _, rfl⟩
  simp_arith [hl]
  rw [popS_same rfl]
  exact ⟨by simp [hl], rfl⟩
end
end K72
end
section
set_option Elab.async false
set_option linter.all false
set_option maxRecDepth 100000
namespace K72
open PySem Mn
local macro_rules
  | `(tactic| simp_arith [$ls,*]) => `(tactic| simp only [sat_ok, sat_bad, sat_bind, sat_C, sat_nil, sat_cons, sat_var, sat_tup, sat_lst, sat_mkL, sat_op2, sat_opL, sat_call, sat_att, sat_meth, sat_tv, sat_and, sat_or, sat_not, sat_yes, sat_andV, sat_orV, sat_notV, sat_ifE, sat_seq, sat_dnx, sat_ret, sat_retN, sat_exp, sat_set, sat_if, sat_never, sat_unp, sat_lset, sat_dput, sat_fset, sat_aug, sat_for, sat_comp, sat_fI, sat_sub, sat_div, sat_mod, sat_addI, sat_mulI, sat_addL, sat_addT, sat_addS, sat_ix, sat_in, sat_is, sat_isnot, sat_len, sat_pow, sat_bm, sat_sl, sat_part, sat_nopart, sat_eq, sat_ne, sat_seqI, seqI_lst, seqI_tup, ix_tup, ix_lst, ix_scr, atI_0, atI_1, atI_2, atI_3, atI_4, dat_str, dat_int, dat_non, dat_nil, eq_str, eq_int, PV.isN, fnE, List.map_cons, List.map_nil, List.length_cons, List.length_nil, Nat.reduceAdd, Nat.reduceSub, List.reduceReplicate, List.cons_append, List.nil_append, List.append_nil, List.getElem?_cons_succ, List.getElem?_cons_zero, List.set_cons_succ, List.set_cons_zero, Option.some.injEq, PV.bl.injEq, PV.int.injEq, exists_eq_left', exists_eq_left, decide_eq_true_eq, Bool.not_eq_true', Nat.reduceLeDiff, true_and, and_true, Bool.false_eq_true, if_true, if_false, gt_iff_lt, ge_iff_le, reduceCtorEq, false_and, and_false, exists_false, Bool.not_true, Bool.not_false, sat_rng1, sat_rng2, sat_zip, sat_zipL, sat_listOf, sat_tupOf, sat_all, sat_any, sat_isi, sat_make, sat_dic0, seqOf_lst, seqOf_tup, lstOf_lst, lenP_lst, lenP_tup, srcP_lst, srcP_tup, tyP_str, tyP_tup, tyP_lst, tyP_int, tyP_non, Option.bind_some, cut_to, cut_from, cut_toT, cut_fromT, wipeE, $ls,*])
section
variable {h : AH} {us : List Told}
def nk (n : Nm) : NestedKey := .tup [.text n.1, .text n.2]
def prV (n : Nm) : PV := .tup [.str n.1, .str n.2]
theorem keys_nk : ∀ ns : List Nm, NS.keyKs (ns.map prV) = some (ns.map nk)
  | [] => rfl
  | n :: ns => by
    rw [List.map_cons, NS.keyKs, keys_nk ns]; rfl
theorem pv_nk (n : Nm) : NS.pvK (nk n) = prV n := rfl
theorem alike_nk (n m : Nm) : PySem.W.alike (nk n).data (nk m).data = true := by
  unfold nk
  rfl
theorem srt_nm {ns : List Nm} {D : List Nm} (hD : D.length ≤ 4) (hs : ∀ n ∈ ns, n ∈ D) (b : Nat) : ∃ ms : List Nm, fSrtSet [.lst (ns.map prV)] b h = .ok (.lst (ms.map prV)) h ∧ ∀ n ∈ ms, n ∈ ns := by
  have mem : ∀ k ∈ dist (ns.map nk), ∃ n ∈ ns, nk n = k := fun k hk => by
    have := (dist_mem _).mp hk
    obtain ⟨n, hn, e⟩ := List.mem_map.mp this
    exact ⟨n, hn, e⟩
  have ok : setOk (dist (ns.map nk)) = true := by
    unfold setOk
    rw [Bool.and_eq_true, Bool.and_eq_true]
    refine ⟨⟨?_, ?_⟩, ?_⟩
    · rw [Nat.ble_eq]
      have := sub_len (dist (ns.map nk)) (D.map nk) (dist_nodup _) fun k hk => by
        obtain ⟨n, hn, e⟩ := mem k hk
        rw [← e]
        exact List.mem_map.mpr ⟨n, hs n hn, rfl⟩
      rw [List.length_map] at this
      omega
    · rw [List.all_eq_true]
      intro k hk
      obtain ⟨n, hn, rfl⟩ := mem k hk
      rfl
    · rw [List.all_eq_true]
      intro k hk
      obtain ⟨n, hn, rfl⟩ := mem k hk
      rw [List.all_eq_true]
      intro q hq
      obtain ⟨m, hm, rfl⟩ := mem q hq
      exact alike_nk n m
  have srt : ∃ ms : List Nm, (dist (ns.map nk)).mergeSort (PySem.W.dataLe false NestedKey.data) = ms.map nk ∧ ∀ n ∈ ms, n ∈ ns := by
    have all : ∀ l : List NestedKey, (∀ k ∈ l, ∃ n ∈ ns, nk n = k) → ∃ ms : List Nm, l = ms.map nk ∧ ∀ n ∈ ms, n ∈ ns := by
      intro l
      induction l with
      | nil => exact fun _ => ⟨[], rfl, by simp⟩
      | cons k l ih =>
        intro hk
        obtain ⟨n, hn, e⟩ := hk k List.mem_cons_self
        obtain ⟨ms, e2, h2⟩ := ih fun q hq => hk q (List.mem_cons_of_mem _ hq)
        refine ⟨n :: ms, by rw [List.map_cons, e, e2], fun m hm => ?_⟩
        rcases List.mem_cons.mp hm with rfl | hm
        · exact hn
        · exact h2 m hm
    exact all _ fun k hk => mem k (List.mem_mergeSort.mp hk)
  obtain ⟨ms, e, hm⟩ := srt
  refine ⟨ms, ?_, hm⟩
  unfold fSrtSet
  simp only [lstOf_lst, keys_nk, ok, if_true, e]
  rw [List.map_map]
  rfl
def nmsOf : List Tm → List Nm
  | [] => []
  | .nm x k :: ts => (x, k) :: nmsOf ts
  | _ :: ts => nmsOf ts
def isNm : Tm → Bool
  | .nm _ _ => true
  | _ => false
def nmOf : Tm → PV
  | .nm x k => prV (x, k)
  | _ => .non
theorem nms_eq : ∀ ts : List Tm, (ts.filter isNm).map nmOf = (nmsOf ts).map prV
  | [] => rfl
  | .nm x k :: ts => by rw [List.filter_cons]; simp only [isNm, if_true, List.map_cons, nmsOf, nms_eq ts]; rfl
  | .bd n :: ts => by rw [List.filter_cons]; simp only [isNm, nmsOf, nms_eq ts]; simp [nms_eq ts]
  | .mk f ps :: ts => by rw [List.filter_cons]; simp only [isNm, nmsOf, nms_eq ts]; simp [nms_eq ts]
theorem nms_in : ∀ {ts : List Tm} {n : Nm}, n ∈ nmsOf ts → Tm.nm n.1 n.2 ∈ ts
  | [], n, h => by cases h
  | .nm x k :: ts, n, h => by
    rcases List.mem_cons.mp h with rfl | h
    · exact List.mem_cons_self
    · exact List.mem_cons_of_mem _ (nms_in h)
  | .bd _ :: ts, n, h => List.mem_cons_of_mem _ (nms_in (ts := ts) h)
  | .mk _ _ :: ts, n, h => List.mem_cons_of_mem _ (nms_in (ts := ts) h)
theorem names_ok (t : Tm) (hz : t.size ≤ 300) {D : List Nm} (hD : D.length ≤ 4) (hs : ∀ x k, Sub (.nm x k) t → (x, k) ∈ D) (b : Nat) : (f_names_of [t.enc] b h).sat fun v h' => ∃ ms : List Nm, v = .lst (ms.map prV) ∧ (∀ n ∈ ms, n ∈ D) ∧ h' = h := by
  unfold f_names_of
  rw [sat_fn]
  unfold d_names_of
  simp_arith []
  refine (within_ok t hz _).mono ?_
  rintro v h' ⟨ts, rfl, hl, sub, rfl⟩
  refine ⟨_, rfl, ?_⟩
  refine compL_typ _ _ _ ts Tm.enc isNm nmOf (fun u hu => ?_) ?_
  · refine ⟨_, rfl, ?_, fun hp => ?_⟩
    · cases u with
      | nm x k => rw [enc_nm]; simp_arith []; exact decide_eq_true trivial
      | bd n => rw [enc_bd]; simp_arith [s_bn]; rfl
      | mk f ps => rw [enc_mk]; simp_arith [s_mn]; rfl
    · cases u with
      | nm x k =>
        rw [enc_nm]
        simp_arith []
        exact ⟨rfl, rfl⟩
      | bd n => cases hp
      | mk f ps => cases hp
  · rw [nms_eq]
    obtain ⟨ms, e, hm⟩ := srt_nm (h := h') (ns := nmsOf ts) hD (fun n hn => hs _ _ (sub _ (nms_in hn))) h'.length
    show (fSrtSet _ _ _).sat _
    rw [eq_sat e]
    rw [popS_same rfl]
    exact ⟨ms, rfl, fun n hn => hs _ _ (sub _ (nms_in (hm n hn))), rfl⟩
theorem sub_wk {S : Sig → Prop} {M : Nm → Prop} {O : Str → List Tm → Prop} {t : Tm} {k : Str} (w : Wk S M O t k) {u : Tm} (s : Sub u t) : ∃ k', Wk S M O u k' := by
  induction s generalizing k with
  | refl => exact ⟨k, w⟩
  | part hp _ ih =>
    cases w with
    | mk hs hl ha ho =>
      obtain ⟨i, e⟩ := List.mem_iff_getElem?.mp hp
      rename_i ps _ tk
      have hi : i < tk.length := by rw [← hl]; exact (List.getElem?_eq_some_iff.mp e).1
      exact ih (ha i _ _ e (List.getElem?_eq_getElem hi))
theorem Wk.imp {S S' : Sig → Prop} {M M' : Nm → Prop} {O O' : Str → List Tm → Prop} {Kn : Str → Prop} (hS : ∀ s, S s → Kn s.2.2 → S' s ∧ ∀ t ∈ s.2.1, Kn t) (hM : ∀ n, M n → Kn n.2 → M' n) (hO : ∀ f ps, O f ps → O' f ps) : ∀ {t : Tm} {k : Str}, Wk S M O t k → Kn k → Wk S' M' O' t k := by
  intro t k w
  induction w with
  | nm h => exact fun q => .nm (hM _ h q)
  | mk hs hl ha ho ih =>
    intro q
    obtain ⟨h1, h2⟩ := hS _ hs q
    exact .mk h1 hl (fun i p t e1 e2 => ih i p t e1 e2 (h2 t (List.mem_of_getElem? e2))) (hO _ _ ho)
/-- what a right may hold: signs of the table that are not open, names of a row -/
structure RtOk (us : List Told) (S : Sig → Prop) (D : List Nm) : Prop where
  sg : ∀ s, S s → s ∈ sigs us ∧ (s ∈ mkSigs ∨ ∃ w ∈ us, w.sig = s ∧ w.rs ≠ [])
  nm : ∀ n ∈ D, n.1 ∈ allN ∧ Kd n.2
  len : D.length ≤ 4
theorem mem_unique {us : List Told} (U : WsOk us) {w w' : Told} (h : w ∈ us) (h' : w' ∈ us) (e : w.f = w'.f) : w = w' := by
  have nd : (us.map Told.f).Nodup := by
    rw [U.nm]
    exact (show fnm.Nodup by decide).sublist (List.take_sublist _ _)
  obtain ⟨i, e1⟩ := List.mem_iff_getElem?.mp h
  obtain ⟨j, e2⟩ := List.mem_iff_getElem?.mp h'
  have hi := (List.getElem?_eq_some_iff.mp e1)
  have hj := (List.getElem?_eq_some_iff.mp e2)
  obtain ⟨hi, ei⟩ := hi
  obtain ⟨hj, ej⟩ := hj
  have : i = j := by
    have q := (List.getElem_inj (xs := us.map Told.f) (h₀ := by simpa using hi) (h₁ := by simpa using hj) nd).mp (by simp [ei, ej, e])
    exact q
  subst this
  rw [← ei, ← ej]
theorem not_kind {x : Str} (h : x ∈ mkSigs.map (·.1) ∨ x ∈ fnm) : ¬ Kd x := by
  have e : ∀ x ∈ mkSigs.map (·.1) ++ fnm, ¬ Kd x := by decide
  exact e x (List.mem_append.mpr h)
theorem W_dep {us : List Told} (U : WsOk us) {w : Told} (hw : w ∈ us) : Tm.deps w.rs ≤ 50 := by
  obtain ⟨p, T⟩ := U.tok hw
  have := T.rdep
  omega
theorem find_told {us : List Told} (U : WsOk us) {w : Told} (hw : w ∈ us) : (us.find? fun v => decide ((Sum.inr v.f : L2.Key) = .inr w.f)) = some w := by
  cases e : us.find? fun v => decide ((Sum.inr v.f : L2.Key) = .inr w.f) with
  | none =>
    have := List.find?_eq_none.mp e w hw
    simp at this
  | some v =>
    have h1 := List.mem_of_find?_eq_some e
    have h2 := List.find?_some e
    simp only [decide_eq_true_eq, Sum.inr.injEq] at h2
    rw [mem_unique U h1 hw h2]
theorem getWv (U : WsOk us) {w : Told} (hw : w ∈ us) (f : Told → PV) : dGetP (wKeys us) (us.map f) (.inr w.f) = some (f w) := by
  unfold wKeys
  rw [dGetP_map, find_told U hw]; rfl
theorem is_open_no (G : GOk h us) (U : WsOk us) {s : Sig} (hs : s ∈ sigs us) (ho : s ∈ mkSigs ∨ ∃ w ∈ us, w.sig = s ∧ w.rs ≠ []) (b : Nat) : f_Ground_is_open [.ref 1, .str s.1] b h = .ok (.bl false) h := by
  apply sat_eq_of
  unfold f_Ground_is_open
  rw [sat_fn]
  unfold d_Ground_is_open
  have nk : ¬ Kd s.1 := not_kind (by
    rcases sig_work hs with z | z
    · exact .inl z
    · rw [U.nm] at z; exact .inr (List.mem_of_mem_take z))
  simp_arith [G.meth (m := "is_kind") (tab := mt_is_kind) (by decide) rfl, G.meth (m := "is_work") (tab := mt_is_work) (by decide) rfl, eq_sat (is_kind_eq G _ _), eq_sat (is_work_eq G _ _)]
  rw [if_neg nk]
  split
  · rename_i z
    rcases ho with hm | ⟨w, hw, e, hr⟩
    · exfalso
      rw [U.nm] at z
      have e : ∀ s ∈ mkSigs, s.1 ∉ fnm := by decide
      exact e s hm (List.mem_of_mem_take z)
    · subst e
      have d := (W_dep U hw)
      have fn : w.sig.1 = w.f := rfl
      simp_arith [G.att (f := "rights_row") (v := .ref 7) rfl, ix_dicR G.rr, wRs, fn, getWv U hw, dat_tms d, lst_eq_nil, List.map_eq_nil_iff, hr]
      rw [popS_same rfl]
      exact ⟨by simp [hr], rfl⟩
  · rw [popS_same rfl]
    exact ⟨rfl, rfl⟩
theorem need_ok (b : Nat) : f_need [.bl true] b h = .ok .non h := by
  apply sat_eq_of
  unfold f_need
  rw [sat_fn]
  unfold d_need
  simp_arith []
  rw [popS_same rfl]
  exact ⟨rfl, rfl⟩
theorem prs_d (ns : List Nm) : PV.dats (ns.map prV) = true ∧ PyData.depthAll (PV.toDs (ns.map prV)) ≤ 2 := by
  induction ns with
  | nil => exact ⟨rfl, by decide⟩
  | cons n ns ih =>
    refine ⟨?_, ?_⟩
    · simp only [List.map_cons, PV.dats, ih.1, prV, PV.dat, Bool.and_self]
    · have := ih.2
      simp only [List.map_cons, PV.toDs, PyData.depthAll, prV, PV.toD, PyData.depth] at this ⊢
      omega
theorem dat_prs (ns : List Nm) : datOf h (.lst (ns.map prV)) = some (.lst (ns.map prV)) := by
  unfold datOf
  rw [if_pos (show PV.dat (.lst _) = true from (prs_d ns).1), if_pos (by rw [Nat.ble_eq]; have := (prs_d ns).2; simp only [PV.toD, PyData.depth]; omega)]
theorem prV_eq (a b : Nm) : ((prV a).eq (prV b) = true) ↔ a = b := by
  simp [prV, PV.eq, PV.toD, PV.toDs, PyData.eqv, PyData.eqvAll, Prod.ext_iff]
theorem in_prs {ns : List Nm} {n : Nm} (hn : n ∈ ns) : inP h (prV n) (.lst (ns.map prV)) = some true := by
  unfold inP
  have d1 : dicOf h (.lst (ns.map prV)) = none := rfl
  have d2 : datOf h (prV n) = some (prV n) := rfl
  rw [d1]
  simp only [d2, dat_prs]
  exact congrArg some (List.any_eq_true.mpr ⟨prV n, List.mem_map.mpr ⟨n, hn, rfl⟩, (prV_eq n n).mpr rfl⟩)
theorem check_right_ok (G : GOk h us) (U : WsOk us) {S : Sig → Prop} {D : List Nm} {O : Str → List Tm → Prop} (R : RtOk us S D) {t : Tm} {k : Str} (w : Wk S (· ∈ D) O t k) (dp : t.dep ≤ 3) (sz : t.size ≤ 40) {let_ : List Nm} (hl : ∀ n ∈ D, n ∈ let_) (b : Nat) : f_Ground_check_right [.ref 1, t.enc, .str k, .lst (let_.map prV)] b h = .ok .non h := by
  apply sat_eq_of
  unfold f_Ground_check_right
  rw [sat_fn]
  unfold d_Ground_check_right
  simp_arith [eq_sat (kon_ok G U (fun s hs => (R.sg s hs).1) (fun n hn => R.nm n hn) 12 t k _ (by omega) w), eq_sat (signs_ok t (by omega) _)]
  have le : decide ((t.size : Int) ≤ 40) = true := by rw [decide_eq_true_eq]; omega
  have l2 : fLe (PV.int ↑t.size) c_MOST_IN_RIGHT h.length h = .ok (.bl true) h := by
    show Mn.R.ok (PV.bl (decide ((t.size : Int) ≤ 40))) h = _
    rw [le]
  simp only [eq_sat l2, eq_sat (need_ok _)]
  refine (names_ok t (by omega) R.len (fun x k s => ?_) _).mono ?_
  · obtain ⟨k', w'⟩ := sub_wk w s
    cases w' with
    | nm h => exact h
  rintro v h' ⟨ms, rfl, hm, rfl⟩
  refine ⟨_, rfl, ?_⟩
  refine compL_typ _ _ _ ms prV (fun _ => true) (fun _ => .bl true) (fun n hn => ?_) ?_
  · refine ⟨_, rfl, ⟨rfl, rfl⟩, fun _ => ?_⟩
    simp_arith [in_prs (hl n (hm n hn))]
    trivial
  rw [filter_yes, blsOf_map (fun _ => true)]
  have al : (ms.map fun _ => true).all id = true := by rw [List.all_eq_true]; intro x hx; obtain ⟨_, _, rfl⟩ := List.mem_map.mp hx; rfl
  refine ⟨_, rfl, ?_⟩
  rw [al]
  simp only [eq_sat (need_ok _)]
  refine (within_ok t (by omega) _).mono ?_
  rintro v h' ⟨ts, rfl, hl2, sub, rfl⟩
  refine ⟨_, rfl, ?_⟩
  refine compL_typ _ _ _ ts Tm.enc (fun _ => true) (fun _ => .bl false) (fun u hu => ?_) ?_
  · refine ⟨_, rfl, ⟨rfl, rfl⟩, fun _ => ?_⟩
    obtain ⟨k', w'⟩ := sub_wk w (sub u hu)
    cases w' with
    | nm => rw [enc_nm]; simp_arith [s_nm]
    | mk hs hl3 ha ho =>
      rw [enc_mk]
      simp_arith [G.meth (m := "is_open") (tab := mt_is_open) (by decide) rfl, eq_sat (is_open_no G U (R.sg _ hs).1 (R.sg _ hs).2 _)]
  rw [filter_yes, blsOf_map (fun _ => false)]
  have an : (ts.map fun _ => false).any id = false := by rw [List.any_eq_false]; intro x hx; obtain ⟨_, _, rfl⟩ := List.mem_map.mp hx; simp
  refine ⟨_, rfl, ?_⟩
  rw [an]
  simp only [Bool.not_false, eq_sat (need_ok _)]
  rw [popS_same rfl]
  exact ⟨rfl, rfl⟩
end
end K72
end
section
set_option Elab.async false
set_option linter.all false
set_option maxRecDepth 100000
namespace K72
open PySem Mn
local macro_rules
  | `(tactic| simp_arith [$ls,*]) => `(tactic| simp only [sat_ok, sat_bad, sat_bind, sat_C, sat_nil, sat_cons, sat_var, sat_tup, sat_lst, sat_mkL, sat_op2, sat_opL, sat_call, sat_att, sat_meth, sat_tv, sat_and, sat_or, sat_not, sat_yes, sat_andV, sat_orV, sat_notV, sat_ifE, sat_seq, sat_dnx, sat_ret, sat_retN, sat_exp, sat_set, sat_if, sat_never, sat_unp, sat_lset, sat_dput, sat_fset, sat_aug, sat_for, sat_comp, sat_fI, sat_sub, sat_div, sat_mod, sat_addI, sat_mulI, sat_addL, sat_addT, sat_addS, sat_ix, sat_in, sat_is, sat_isnot, sat_len, sat_pow, sat_bm, sat_sl, sat_part, sat_nopart, sat_eq, sat_ne, sat_seqI, seqI_lst, seqI_tup, ix_tup, ix_lst, ix_scr, atI_0, atI_1, atI_2, atI_3, atI_4, dat_str, dat_int, dat_non, dat_nil, eq_str, eq_int, PV.isN, fnE, List.map_cons, List.map_nil, List.length_cons, List.length_nil, Nat.reduceAdd, Nat.reduceSub, List.reduceReplicate, List.cons_append, List.nil_append, List.append_nil, List.getElem?_cons_succ, List.getElem?_cons_zero, List.set_cons_succ, List.set_cons_zero, Option.some.injEq, PV.bl.injEq, PV.int.injEq, exists_eq_left', exists_eq_left, decide_eq_true_eq, Bool.not_eq_true', Nat.reduceLeDiff, true_and, and_true, Bool.false_eq_true, if_true, if_false, gt_iff_lt, ge_iff_le, reduceCtorEq, false_and, and_false, exists_false, Bool.not_true, Bool.not_false, sat_rng1, sat_rng2, sat_zip, sat_zipL, sat_listOf, sat_tupOf, sat_all, sat_any, sat_isi, sat_make, sat_dic0, seqOf_lst, seqOf_tup, lstOf_lst, lenP_lst, lenP_tup, srcP_lst, srcP_tup, tyP_str, tyP_tup, tyP_lst, tyP_int, tyP_non, Option.bind_some, cut_to, cut_from, cut_toT, cut_fromT, wipeE, $ls,*])
section
variable {h : AH} {us : List Told}
theorem strs_low (n : Nat) (ss : List Str) : PV.lowL n (ss.map PV.str) = true := PV.lowL_iff.mpr fun x hx => by
  obtain ⟨t, _, rfl⟩ := List.mem_map.mp hx
  rfl
theorem dat_refL {n : Nat} {ys : List PV} (e : h[n]? = some (.lst ys)) (lo : PV.lowL 0 ys = true) {z : PV} (d : datOf h (.lst ys) = some z) : datOf h (.ref n) = some z := by
  have rzr : rz 8 h 0 (.ref n) = some (.lst ys) := by
    rw [rz]
    have l0 : (PV.ref n).low 0 = false := by simp [PV.low]
    simp only [l0, e]
    simp [rzL, mapM_low lo]
  have dl : PV.dat (.ref n) = false := rfl
  unfold datOf at d ⊢
  rw [if_neg (by rw [dl]; simp), rzr]
  by_cases c : (PV.lst ys).dat = true
  · rw [if_pos c] at d
    simp only [c]
    simpa using d
  · rw [if_neg c] at d
    rw [rz_low (show (PV.lst ys).low 0 = true from lo)] at d
    simp [c] at d
def Sok (us : List Told) (s : Sig) : Prop := s ∈ sigs us ∧ (s ∈ mkSigs ∨ ∃ w ∈ us, w.sig = s ∧ w.rs ≠ [])
theorem zip_outer {tk : List Str} (hz : tk.length ≤ 3) : zipT [.str "xa", .str "xb", .str "xc", .str "xd"] (tk.map PV.str) = (xs tk).map prV := by
  rcases tk with _ | ⟨a, _ | ⟨b, _ | ⟨c, _ | ⟨d, r⟩⟩⟩⟩
  · rfl
  · rfl
  · rfl
  · rfl
  · simp at hz
theorem zip_inner {tk : List Str} (hz : tk.length ≤ 2) : zipT [.str "ya", .str "yb", .str "yc", .str "yd"] (tk.map PV.str) = (ys tk).map prV := by
  rcases tk with _ | ⟨a, _ | ⟨b, _ | ⟨c, r⟩⟩⟩
  · rfl
  · rfl
  · rfl
  · simp at hz
theorem xs_names {tk : List Str} {n : Nm} (h : n ∈ xs tk) : n.1 ∈ allN := by
  have := (List.of_mem_zip h).1
  have e : ∀ x ∈ (["xa", "xb", "xc"] : List Str), x ∈ allN := by decide
  exact e _ this
theorem ys_names {tk : List Str} {n : Nm} (h : n ∈ ys tk) : n.1 ∈ allN := by
  have := (List.of_mem_zip h).1
  have e : ∀ x ∈ (["ya", "yb"] : List Str), x ∈ allN := by decide
  exact e _ this
theorem sig0_mk {s : Sig} (h : sig0P s) : s ∈ mkSigs ∧ ∀ t ∈ s.2.1, K3 t := by
  obtain ⟨h1, h2⟩ := h
  have k := (mks_K _ h2).2.1
  refine ⟨?_, k⟩
  obtain ⟨f, tk, g⟩ := s
  simp only at h1 h2
  rcases h1 with rfl | rfl | rfl | rfl
  · rcases List.mem_cons.mp h2 with e | h2
    · cases e; decide
    · rcases List.mem_cons.mp h2 with e | h2
      · cases e; decide
      · cases h2
  · rcases List.mem_cons.mp h2 with e | h2
    · cases e; decide
    · rcases List.mem_cons.mp h2 with e | h2
      · cases e; decide
      · cases h2
  · rcases List.mem_cons.mp h2 with e | h2
    · cases e; decide
    · rcases List.mem_cons.mp h2 with e | h2
      · cases e; decide
      · cases h2
  · cases h2
/-- what stands in a right is of the table and not open -/
theorem right_wk {vs : List Told} {o : Option Own} {D : List Nm} {t : Tm} {k : Str} (hu : ∀ w ∈ us, w ∈ vs) (U : WsOk us) (ho : ∀ w, o = some w → ∃ v ∈ vs, v.sig = (w.f, w.tk, w.gv) ∧ v.rs ≠ [] ∧ ∀ t ∈ w.tk, K3 t) (hk : K3 k) (w : WkG D (opn us) o t k) : Wk (Sok vs) (· ∈ D) (Og o) t k := by
  refine Wk.imp (Kn := K3) ?_ ?_ (fun _ _ h => h) w hk
  · intro s hs _
    rcases hs with h | ⟨v, hv, e⟩ | ⟨v, hv, hn, e⟩
    · obtain ⟨m, q⟩ := sig0_mk h
      exact ⟨⟨List.mem_append_left _ m, .inl m⟩, q⟩
    · obtain ⟨h1, h2⟩ := opn_in hv
      refine ⟨⟨List.mem_append_right _ (List.mem_map.mpr ⟨v, hu _ h1, e⟩), .inr ⟨v, hu _ h1, e, h2⟩⟩, ?_⟩
      obtain ⟨p, T⟩ := U.tok h1
      rcases T.kt with ⟨q, _⟩ | ⟨_, q, _⟩
      · rw [← e]; exact q
      · exact absurd q h2
    · obtain ⟨u, hu', e2, hr, q⟩ := ho v hv
      subst e
      exact ⟨⟨List.mem_append_right _ (List.mem_map.mpr ⟨u, hu', e2⟩), .inr ⟨u, hu', e2, hr⟩⟩, q⟩
  · intro n hn k3
    rcases hn with h | rfl
    · exact h
    · exact absurd k3 (by unfold K3 tNm; decide)
theorem att_of (e : h[1]? = some (.ins "Ground" fldN [.ref 2, .ref 3, .ref 4, .ref 5, .ref 6, .ref 7])) {f : Str} {v : PV} (ef : fldAt fldN [.ref 2, .ref 3, .ref 4, .ref 5, .ref 6, .ref 7] f = some v) {Q : PV → Prop} : (∃ c fs vs v, clsOf h (.ref 1) = some (c, fs, vs) ∧ okG c = true ∧ fldAt fs vs f = some v ∧ Q v) ↔ Q v := by
  have ec : clsOf h (.ref 1) = some (("Ground" : Str), fldN, [.ref 2, .ref 3, .ref 4, .ref 5, .ref 6, .ref 7]) := by unfold clsOf; simp only [e]
  rw [ec]
  constructor
  · rintro ⟨c, fs, vs, w, e1, _, e2, q⟩
    cases e1
    rw [ef] at e2
    cases e2
    exact q
  · exact fun q => ⟨_, _, _, v, rfl, by decide, ef, q⟩
theorem maker_row (G : GOk h us) {k : Str} (hk : K3 k) : ∃ n : Nat, dGetP kKeys [.ref 8, .ref 9, .ref 10, .ref 11] (.inr k) = some (.ref n) ∧ h[n]? = some (.lst ((mks k).map fun m => .str m.1)) := by
  rcases hk with rfl | rfl | rfl
  · exact ⟨8, rfl, G.l0⟩
  · exact ⟨9, rfl, G.l1⟩
  · exact ⟨10, rfl, G.l2⟩
theorem sat_addRL (m : Bool) {n b : Nat} {xs ys : List PV} {P : PV → AH → Prop} (e : h[n]? = some (.lst xs)) : (fAdd m (.ref n) (.lst ys) b h).sat P ↔ xs.length + ys.length ≤ 16777216 ∧ (mkL m (xs ++ ys) h).sat P := by
  show (R.sat (match lstOf h (.ref n), lstOf h (.lst ys) with
    | some xs, some ys => if szOk (xs.length + ys.length) = true then mkL m (xs ++ ys) h else .bad
    | _, _ => .bad) P) ↔ _
  rw [lstOf_ref e, lstOf_lst, ← szOk_le]
  by_cases z : szOk (xs.length + ys.length) = true <;> simp [z, Mn.R.sat]
theorem popAt_ref {n b i : Nat} {xs : List PV} {y : PV} {P : PV → AH → Prop} (e : h[n]? = some (.lst xs)) (hi : xs[i]? = some y) (hb : i < 1000) : (fPopAt (.ref n) [.int i] b h).sat P ↔ P y (h.set n (.lst (xs.eraseIdx i))) := by
  have hl : i < xs.length := (List.getElem?_eq_some_iff.mp hi).1
  have c : (decide (-(2 ^ 63) ≤ (i : Int)) && decide ((i : Int) < 2 ^ 63)) = true := by
    rw [Bool.and_eq_true, decide_eq_true_eq, decide_eq_true_eq]
    have : (2 : Int) ^ 63 = 9223372036854775808 := by decide
    omega
  have sx : seqIndex? (i : Int) xs.length = some i := by
    unfold seqIndex?
    have : ¬ (i : Int) < 0 := by omega
    simp [this, hl]
  unfold fPopAt
  simp only [e, c, if_true, sx, hi]
  exact Iff.rfl
theorem check_falling_ok (G : GOk h us) (U : WsOk us) {w : Told} (hw : w ∈ us) {a : Nat} (hat : w.at_ = some a) {k : Str} (hk : w.tk[a]? = some k) (k3 : K3 k) (hz : w.tk.length ≤ 3) (kk : ∀ t ∈ w.tk, K3 t) {m : Str × List Str} (hm : m ∈ mks k) {t : Tm} (wk : Wk (Sok us) (· ∈ fns w.tk a m.2) (Og (some (ownOf w.f w.tk w.gv a m.2))) t w.gv) (dp : t.dep ≤ 3) (sz : t.size ≤ 13) (b : Nat) :
    f_Ground_check_falling [.ref 1, .str w.f, t.enc, .str m.1] b h = .ok .non h := by
  apply sat_eq_of
  unfold f_Ground_check_falling
  rw [sat_fn]
  unfold d_Ground_check_falling
  have e1 : dGetP (wKeys us) (wAts us) (.inr w.f) = some (.int (a : Nat)) := by rw [wAts, getWv U hw, hat]; rfl
  have hms : (m.1, m.2, k) ∈ mkSigs := by
    obtain ⟨x, _⟩ := sig0_mk (s := (m.1, m.2, k)) ⟨k3.kd, hm⟩
    exact x
  have e2 : dGetP (sKeys us) (sTakes us) (.inr m.1) = some (.tup (m.2.map .str)) := getS U (s := (m.1, m.2, k)) (List.mem_append_left _ hms) _
  have e3 : dGetP (sKeys us) (sTakes us) (.inr w.f) = some (.tup (w.tk.map .str)) := getS U (s := w.sig) (List.mem_append_right _ (List.mem_map.mpr ⟨w, hw, rfl⟩)) _
  have e4 : dGetP (sKeys us) (sGives us) (.inr w.f) = some (.str w.gv) := getS U (s := w.sig) (List.mem_append_right _ (List.mem_map.mpr ⟨w, hw, rfl⟩)) _
  have m2 := (mks_K m hm).1
  have ha : a < w.tk.length := (List.getElem?_eq_some_iff.mp hk).1
  have cO : ∀ h : AH, seqOf h c_OUTER = some [.str "xa", .str "xb", .str "xc", .str "xd"] := fun _ => rfl
  have cI : ∀ h : AH, seqOf h c_INNER = some [.str "ya", .str "yb", .str "yc", .str "yd"] := fun _ => rfl
  rw [sat_seq]
  simp_arith [-sat_seq, att_of G.self (f := "falls_row") (v := .ref 6) rfl, ix_dicR G.fr, e1]
  rw [sat_seq]
  simp_arith [-sat_seq, att_of G.self (f := "takes_row") (v := .ref 3) rfl, ix_dicR G.tr, e2]
  refine ⟨_, _, cI _, rfl, ?_⟩
  rw [zip_inner m2, sat_seq]
  simp_arith [-sat_seq, att_of G.self (f := "takes_row") (v := .ref 3) rfl, ix_dicR G.tr, e3]
  refine ⟨_, _, cO _, rfl, ?_⟩
  rw [zip_outer hz]
  try simp_arith [-sat_seq]
  have G1 := G.app [.lst ((xs w.tk).map prV)]
  have el : (h ++ [AO.lst ((xs w.tk).map prV)])[h.length]? = some (.lst ((xs w.tk).map prV)) := by
    rw [List.getElem?_append_right (Nat.le_refl _)]; simp
  have xa : a < (xs w.tk).length := by
    unfold xs; rw [List.length_zip]; simp; omega
  rw [sat_seq]
  try simp_arith [-sat_seq]
  refine ⟨isL_ref el, ?_⟩
  rw [popAt_ref el (by rw [List.getElem?_map, List.getElem?_eq_getElem xa]; rfl) (by omega)]
  rw [List.set_append_right _ _ (Nat.le_refl _)]
  simp only [Nat.sub_self, List.set_cons_zero]
  have G2 := G.app [.lst (((xs w.tk).map prV).eraseIdx a)]
  have el2 : (h ++ [AO.lst (((xs w.tk).map prV).eraseIdx a)])[h.length]? = some (.lst (((xs w.tk).map prV).eraseIdx a)) := by
    rw [List.getElem?_append_right (Nat.le_refl _)]; simp
  rw [sat_seq]
  simp_arith [-sat_seq, G2.meth (m := "check_right") (tab := mt_check_right) (by decide) rfl, att_of G2.self (f := "gives_row") (v := .ref 4) rfl, ix_dicR G2.gr, e4, sat_addRL false el2]
  have lx := xs_len w.tk
  have ly := ys_len m.2
  refine ⟨by simp only [List.length_map]; have := List.length_eraseIdx_le ((xs w.tk).map prV) a; rw [List.length_map] at this; omega, ?_⟩
  have fe : ((xs w.tk).map prV).eraseIdx a ++ (ys m.2).map prV = (fns w.tk a m.2).map prV := by
    rw [List.eraseIdx_eq_take_drop_succ]; unfold fns; simp [List.map_take, List.map_drop]
  have RT : RtOk us (Sok us) (fns w.tk a m.2) := ⟨fun s h => h, fun n hn => by
    rcases fns_in hn with h | h
    · exact ⟨xs_names h, (kk _ (xs_kinds h)).kd⟩
    · exact ⟨ys_names h, ((mks_K m hm).2.1 _ (ys_kinds h)).kd⟩, by
    unfold fns
    have : (xs w.tk).length = w.tk.length := by unfold xs; rw [List.length_zip]; simp; omega
    simp only [List.length_append, List.length_take, List.length_drop]; omega⟩
  rw [fe, eq_sat (check_right_ok G2 U RT wk dp (by omega) (fun n h => h) _), sat_seq]
  try simp_arith [-sat_seq]
  refine (within_ok t (by omega) _).mono ?_
  rintro v h' ⟨ts, rfl, hl2, sub, rfl⟩
  refine ⟨_, rfl, ?_⟩
  refine forL_sat _ _ _ (fun i e h' => ∃ e7 e8, e = [some (PV.ref 1), some (PV.str w.f), some t.enc, some (PV.str m.fst), some (PV.int (a : Nat)),
              some (PV.lst (List.map prV (ys m.snd))), some (PV.ref (List.length h)), e7, e8] ∧ h' = h ++ [AO.lst (((xs w.tk).map prV).eraseIdx a)]) ?turn ?fin _ 0 _ _ (Nat.add_zero _) ⟨none, none, rfl, rfl⟩
  case turn =>
    rintro i e hh hi ⟨e7, e8, rfl, rfl⟩
    have hi' : i < ts.length := by
      have z : i < (ts.map Tm.enc).length := hi
      rwa [List.length_map] at z
    refine ⟨ts[i].enc, _, by show (ts.map Tm.enc)[i]? = _; rw [List.getElem?_map, List.getElem?_eq_getElem hi']; rfl, rfl, ?_⟩
    obtain ⟨k', w'⟩ := sub_wk wk (sub _ (List.getElem_mem hi'))
    generalize ts[i] = u at w'
    cases w' with
    | nm => rw [enc_nm]; simp_arith [s_nm]; exact ⟨_, _, rfl⟩
    | mk hs hl3 ha3 ho =>
      rename_i f tk ps
      rw [enc_mk]
      by_cases ef : f = w.f
      · obtain ⟨n, hn, en⟩ := ho _ rfl ef
        have en' : (ps.map Tm.enc)[a]? = some (Tm.nm n.1 n.2).enc := by
          rw [List.getElem?_map]
          have : ps[a]? = some (.nm n.1 n.2) := en
          rw [this]; rfl
        have hn' : n ∈ ys m.2 := (List.mem_filter.mp hn).1
        simp_arith [ef, atI_nat, en', enc_nm]
        show (∃ t_1, inP _ (prV n) (.lst ((ys m.2).map prV)) = some t_1 ∧ _)
        refine ⟨true, in_prs hn', ?_⟩
        rw [Bool.false_xor, eq_sat (need_ok _)]
        exact ⟨_, _, rfl, rfl⟩
      · simp_arith [ef]
        exact ⟨_, _, rfl⟩
  case fin =>
    rintro e hh ⟨e7, e8, rfl, rfl⟩
    refine ⟨rfl, ?_⟩
    try simp_arith []
    rw [popS_low rfl (by simp)]
    simp
end
end K72
end
section
set_option Elab.async false
set_option linter.all false
set_option maxRecDepth 100000
namespace K72
open PySem Mn
local macro_rules
  | `(tactic| simp_arith [$ls,*]) => `(tactic| simp only [sat_ok, sat_bad, sat_bind, sat_C, sat_nil, sat_cons, sat_var, sat_tup, sat_lst, sat_mkL, sat_op2, sat_opL, sat_call, sat_att, sat_meth, sat_tv, sat_and, sat_or, sat_not, sat_yes, sat_andV, sat_orV, sat_notV, sat_ifE, sat_seq, sat_dnx, sat_ret, sat_retN, sat_exp, sat_set, sat_if, sat_never, sat_unp, sat_lset, sat_dput, sat_fset, sat_aug, sat_for, sat_comp, sat_fI, sat_sub, sat_div, sat_mod, sat_addI, sat_mulI, sat_addL, sat_addT, sat_addS, sat_ix, sat_in, sat_is, sat_isnot, sat_len, sat_pow, sat_bm, sat_sl, sat_part, sat_nopart, sat_eq, sat_ne, sat_seqI, seqI_lst, seqI_tup, ix_tup, ix_lst, ix_scr, atI_0, atI_1, atI_2, atI_3, atI_4, dat_str, dat_int, dat_non, dat_nil, eq_str, eq_int, PV.isN, fnE, List.map_cons, List.map_nil, List.length_cons, List.length_nil, Nat.reduceAdd, Nat.reduceSub, List.reduceReplicate, List.cons_append, List.nil_append, List.append_nil, List.getElem?_cons_succ, List.getElem?_cons_zero, List.set_cons_succ, List.set_cons_zero, Option.some.injEq, PV.bl.injEq, PV.int.injEq, exists_eq_left', exists_eq_left, decide_eq_true_eq, Bool.not_eq_true', Nat.reduceLeDiff, true_and, and_true, Bool.false_eq_true, if_true, if_false, gt_iff_lt, ge_iff_le, reduceCtorEq, false_and, and_false, exists_false, Bool.not_true, Bool.not_false, sat_rng1, sat_rng2, sat_zip, sat_zipL, sat_listOf, sat_tupOf, sat_all, sat_any, sat_isi, sat_make, sat_dic0, seqOf_lst, seqOf_tup, lstOf_lst, lenP_lst, lenP_tup, srcP_lst, srcP_tup, tyP_str, tyP_tup, tyP_lst, tyP_int, tyP_non, Option.bind_some, cut_to, cut_from, cut_toT, cut_fromT, wipeE, $ls,*])
section
variable {h : AH} {us : List Told}
theorem getSs (x : Str) (f : Sig → PV) : (dGetP (sKeys us) ((sigs us).map f) (.inr x)).isSome = decide (x ∈ (sigs us).map (·.1)) := by
  unfold sKeys
  rw [dGetP_map, Option.isSome_map, Bool.eq_iff_iff]
  simp only [List.find?_isSome, decide_eq_true_eq, Sum.inr.injEq, List.mem_map]
theorem is_new_ok (G : GOk h us) {x : Str} (h1 : x ∈ allN) (h2 : ¬ Kd x) (h3 : x ∉ (sigs us).map (·.1)) (b : Nat) : f_Ground_is_new [.ref 1, .str x] b h = .ok (.bl true) h := by
  apply sat_eq_of
  unfold f_Ground_is_new
  rw [sat_fn]
  unfold d_Ground_is_new
  simp_arith [eq_sat (told_eq h1 _), G.att (f := "makers_row") (v := .ref 2) rfl, G.att (f := "takes_row") (v := .ref 3) rfl, in_dic G.mr, in_dic G.tr, getK (vs := [.ref 8, .ref 9, .ref 10, .ref 11]) rfl, sTakes, getSs, h2, h3, decide_false, Bool.true_xor]
  rw [popS_same rfl]
  exact ⟨rfl, rfl⟩
theorem texts_ok {tk : List Str} (hz : tk.length ≤ 4) (b : Nat) : f_is_list_of_texts [.lst (tk.map .str), .int 4] b h = .ok (.bl true) h := by
  apply sat_eq_of
  unfold f_is_list_of_texts
  rw [sat_fn]
  unfold d_is_list_of_texts
  simp_arith [kit_ll, List.length_map]
  rw [if_pos (by omega)]
  refine compL_typ _ _ _ tk PV.str (fun _ => true) (fun _ => .bl true) (fun n hn => ?_) ?_
  · refine ⟨_, rfl, ⟨rfl, rfl⟩, fun _ => ?_⟩
    simp_arith [kit_ss]
  rw [filter_yes, blsOf_map (fun _ => true)]
  have al : (tk.map fun _ => true).all id = true := by rw [List.all_eq_true]; intro x hx; obtain ⟨_, _, rfl⟩ := List.mem_map.mp hx; rfl
  refine ⟨_, rfl, ?_⟩
  rw [al, popS_same rfl]
  exact ⟨rfl, rfl⟩
theorem hasK_no {ks : List L2.Key} {k : L2.Key} (h : k ∉ ks) : hasK ks k = false := by
  unfold hasK
  rw [List.any_eq_false]
  intro x hx e
  rw [decide_eq_true_eq] at e
  rw [e] at hx
  exact h hx
theorem dput_new {n b : Nat} {ks : List L2.Key} {vs : List PV} {x : Str} {v : PV} (e : h[n]? = some (.dic ks vs)) (hx : (.inr x : L2.Key) ∉ ks) (lo : v.low 0 = true) (hz : ks.length < 10000) : dputP b h (.ref n) (.str x) v = some (h.set n (.dic (ks ++ [.inr x]) (vs ++ [v]))) := by
  have c : (okW b n v && szOk (ks.length + 1)) = true := by
    rw [okW_pure lo, szOk_le.mpr (by omega)]; rfl
  unfold dputP
  simp only [e, keyOf, c, if_true, dPutK, dPutV, hasK_no hx, Bool.false_eq_true, if_false]
theorem GOk.put (G : GOk h us) {w : Told} {a1 a2 a3 a4 : AO} (e1 : a1 = .dic (sKeys (us ++ [w])) (sTakes (us ++ [w]))) (e2 : a2 = .dic (sKeys (us ++ [w])) (sGives (us ++ [w]))) (e3 : a3 = .dic (wKeys (us ++ [w])) (wAts (us ++ [w]))) (e4 : a4 = .dic (wKeys (us ++ [w])) (wRs (us ++ [w]))) :
    GOk ((((h.set 3 a1).set 4 a2).set 6 a3).set 7 a4) (us ++ [w]) := by
  have hl : 11 < h.length := (List.getElem?_eq_some_iff.mp G.l3).1
  subst e1 e2 e3 e4
  refine ⟨?_, ?_, ?_, ?_, ?_, ?_, ?_, ?_, ?_, ?_, ?_⟩
  · simp [List.getElem?_set, G.self]
  · simp [List.getElem?_set, G.mr]
  · simp [List.getElem?_set]; omega
  · simp [List.getElem?_set]; omega
  · simp [List.getElem?_set, G.mn]
  · simp [List.getElem?_set]; omega
  · simp [List.getElem?_set]; omega
  · simp [List.getElem?_set, G.l0]
  · simp [List.getElem?_set, G.l1]
  · simp [List.getElem?_set, G.l2]
  · simp [List.getElem?_set, G.l3]
def putH (h : AH) (us : List Told) (w : Told) : AH := (((h.set 3 (.dic (sKeys (us ++ [w])) (sTakes (us ++ [w])))).set 4 (.dic (sKeys (us ++ [w])) (sGives (us ++ [w])))).set 6 (.dic (wKeys (us ++ [w])) (wAts (us ++ [w])))).set 7 (.dic (wKeys (us ++ [w])) (wRs (us ++ [w])))
theorem puts_ok (G : GOk h us) {w : Told} (hz : us.length < 6) (ns : w.f ∉ (sigs us).map (·.1)) {v1 e7 e8 e9 : Option PV} {rest : Ds} {b : Nat} {N : EnvP → AH → Prop} {V : PV → AH → Prop} (q : (rest [some (.ref 1), v1, some (.str w.f), some (.lst (w.tk.map .str)), some (.str w.gv), some (atV w.at_), some (.lst (w.rs.map Tm.enc)), e7, e8, e9, none] b (putH h us w)).sat N V) :
    ((dSeq (dDput (dOpL fTupOf (dCons (dVar 3) dNil)) (dAtt "takes_row" okG (dVar 0)) (dVar 2))
      (dSeq (dDput (dVar 4) (dAtt "gives_row" okG (dVar 0)) (dVar 2))
      (dSeq (dDput (dVar 5) (dAtt "falls_row" okG (dVar 0)) (dVar 2))
      (dSeq (dDput (dOpL (fListOf false) (dCons (dVar 6) dNil)) (dAtt "rights_row" okG (dVar 0)) (dVar 2)) rest)))) [some (.ref 1), v1, some (.str w.f), some (.lst (w.tk.map .str)), some (.str w.gv), some (atV w.at_), some (.lst (w.rs.map Tm.enc)), e7, e8, e9, none] b h).sat N V := by
  have hs : (sKeys us).length < 10000 := by
    have : (sKeys us).length = 6 + us.length := by unfold sKeys sigs; simp [mkSigs]; omega
    omega
  have hw : (wKeys us).length < 10000 := by unfold wKeys; rw [List.length_map]; omega
  have n1 : (.inr w.f : L2.Key) ∉ sKeys us := fun hm => by
    obtain ⟨s, h1, h2⟩ := List.mem_map.mp hm
    exact ns (List.mem_map.mpr ⟨s, h1, by simpa using h2⟩)
  have n2 : (.inr w.f : L2.Key) ∉ wKeys us := fun hm => by
    obtain ⟨s, h1, h2⟩ := List.mem_map.mp hm
    exact ns (List.mem_map.mpr ⟨s.sig, List.mem_append_right _ (List.mem_map.mpr ⟨s, h1, rfl⟩), (by simpa using h2 : s.f = w.f)⟩)
  have lowt : PV.lowL 0 (w.tk.map PV.str) = true := PV.lowL_iff.mpr fun x hx => by
    obtain ⟨t, _, rfl⟩ := List.mem_map.mp hx
    rfl
  have la : (atV w.at_).low 0 = true := by cases w.at_ <;> rfl
  have k1 : sKeys us ++ [.inr w.f] = sKeys (us ++ [w]) := by unfold sKeys sigs; simp [Told.sig]
  have k2 : wKeys us ++ [.inr w.f] = wKeys (us ++ [w]) := by unfold wKeys; simp
  have t1 : sTakes us ++ [.tup (w.tk.map .str)] = sTakes (us ++ [w]) := by unfold sTakes sigs; simp [Told.sig]
  have t2 : sGives us ++ [.str w.gv] = sGives (us ++ [w]) := by unfold sGives sigs; simp [Told.sig]
  have t3 : wAts us ++ [atV w.at_] = wAts (us ++ [w]) := by unfold wAts; simp
  have t4 : wRs us ++ [.lst (w.rs.map Tm.enc)] = wRs (us ++ [w]) := by unfold wRs; simp
  rw [sat_seq]
  simp_arith [-sat_seq, att_of G.self (f := "takes_row") (v := .ref 3) rfl]
  refine ⟨_, dput_new G.tr n1 (by simpa [PV.low] using lowt) hs, ?_⟩
  rw [k1, t1, sat_seq]
  have g1 : (h.set 3 (.dic (sKeys (us ++ [w])) (sTakes (us ++ [w]))))[1]? = some (.ins "Ground" fldN [.ref 2, .ref 3, .ref 4, .ref 5, .ref 6, .ref 7]) := by simp [List.getElem?_set, G.self]
  simp_arith [-sat_seq, att_of g1 (f := "gives_row") (v := .ref 4) rfl]
  refine ⟨_, dput_new (show (h.set 3 _)[4]? = some (.dic (sKeys us) (sGives us)) by simp [List.getElem?_set, G.gr]) n1 rfl hs, ?_⟩
  rw [k1, t2, sat_seq]
  have g2 : ((h.set 3 (.dic (sKeys (us ++ [w])) (sTakes (us ++ [w])))).set 4 (.dic (sKeys (us ++ [w])) (sGives (us ++ [w]))))[1]? = some (.ins "Ground" fldN [.ref 2, .ref 3, .ref 4, .ref 5, .ref 6, .ref 7]) := by simp [List.getElem?_set, G.self]
  simp_arith [-sat_seq, att_of g2 (f := "falls_row") (v := .ref 6) rfl]
  refine ⟨_, dput_new (show ((h.set 3 _).set 4 _)[6]? = some (.dic (wKeys us) (wAts us)) by simp [List.getElem?_set, G.fr]) n2 la hw, ?_⟩
  rw [k2, t3, sat_seq]
  have g3 : (((h.set 3 (.dic (sKeys (us ++ [w])) (sTakes (us ++ [w])))).set 4 (.dic (sKeys (us ++ [w])) (sGives (us ++ [w])))).set 6 (.dic (wKeys (us ++ [w])) (wAts (us ++ [w]))))[1]? = some (.ins "Ground" fldN [.ref 2, .ref 3, .ref 4, .ref 5, .ref 6, .ref 7]) := by simp [List.getElem?_set, G.self]
  simp_arith [-sat_seq, att_of g3 (f := "rights_row") (v := .ref 7) rfl]
  refine ⟨_, dput_new (show (((h.set 3 _).set 4 _).set 6 _)[7]? = some (.dic (wKeys us) (wRs us)) by simp [List.getElem?_set, G.rr]) n2 (by simpa [PV.low] using low_tms 0 w.rs) hw, ?_⟩
  rw [k2, t4]
  exact q
theorem putH_ok (G : GOk h us) (w : Told) : GOk (putH h us w) (us ++ [w]) ∧ (putH h us w).length = h.length ∧ (putH h us w)[0]? = h[0]? := ⟨G.put rfl rfl rfl rfl, by simp [putH], by simp [putH, List.getElem?_set]⟩
theorem add_work_ok (G : GOk h us) (U : WsOk us) {w : Told} (T : TOk us w) (hz : us.length < 6) (hf : w.f = fnm.getD us.length "") (b : Nat) : (f_Ground_add_work [.ref 1, w.enc] b h).sat fun v h' => v = .non ∧ GOk h' (us ++ [w]) ∧ h'.length = h.length ∧ h'[0]? = h[0]? := by
  unfold f_Ground_add_work
  rw [sat_fn]
  unfold d_Ground_add_work
  have a3 : w.tk.length ≤ 4 := by have := T.len; omega
  have hl0 : us.length < 6 := hz
  obtain ⟨f1, f2, f3⟩ := fnm_new _ hz
  rw [← hf] at f1 f2
  have nk : ¬ Kd w.f := not_kind (.inr f2)
  have ns : w.f ∉ (sigs us).map (·.1) := fun hm => by
    obtain ⟨s, hs, e⟩ := List.mem_map.mp hm
    rcases sig_work hs with z | z
    · rw [e] at z
      have e2 : ∀ x ∈ mkSigs.map (·.1), x ∉ fnm := by decide
      exact e2 _ z f2
    · rw [e, U.nm] at z; exact f1 z
  have c4 : c_MOST_TAKEN = .int 4 := rfl
  unfold Told.enc
  rw [sat_seq]
  simp_arith [-sat_seq, kit_tt, G.meth (m := "is_new") (tab := mt_is_new) (by decide) rfl, eq_sat (is_new_ok G (List.mem_append_left _ (List.mem_append_left _ f2)) nk ns _), eq_sat (need_ok _)]
  rw [if_pos (by decide), sat_seq]
  simp_arith [-sat_seq]
  refine ⟨_, rfl, ?_⟩
  rw [sat_seq]
  simp_arith [-sat_seq, c4, eq_sat (texts_ok a3 _), G.att (f := "makers_row") (v := .ref 2) rfl]
  refine compL_typ _ _ _ w.tk PV.str (fun _ => true) (fun _ => .bl true) (fun n hn => ?_) ?_
  · refine ⟨_, rfl, ⟨rfl, rfl⟩, fun _ => ?_⟩
    simp_arith [G.att (f := "makers_row") (v := .ref 2) rfl, in_dic G.mr, getK (vs := [.ref 8, .ref 9, .ref 10, .ref 11]) rfl, T.kds n hn, decide_true, Bool.false_xor]
  rw [filter_yes, blsOf_map (fun _ => true)]
  have al : (w.tk.map fun _ => true).all id = true := by rw [List.all_eq_true]; intro x hx; obtain ⟨_, _, rfl⟩ := List.mem_map.mp hx; rfl
  refine ⟨_, rfl, ?_⟩
  rw [al, eq_sat (need_ok _), sat_seq]
  simp_arith [-sat_seq, G.meth (m := "is_kind") (tab := mt_is_kind) (by decide) rfl, eq_sat (is_kind_eq G _ _), T.kg, decide_true, kit_ll, eq_sat (need_ok _)]
  rw [sat_seq]
  simp_arith [-sat_seq]
  obtain ⟨wf, tk, gv, at_, rs⟩ := w
  cases at_ with
  | none =>
    have q := T.rs
    have K : rs = [] ∨ (∀ t ∈ tk, K3 t) ∧ K3 gv := by
      rcases T.kt with h | ⟨_, h, _⟩
      · exact .inr h
      · exact .inl h
    have hrs : rs.length ≤ 1 := by
      rcases q with h | ⟨t, h, _⟩
      · have h' : rs = [] := h
        rw [h']; simp
      · have h' : rs = [t] := h
        rw [h']; simp
    have hw : ∀ t ∈ rs, Wk (Sok us) (· ∈ xs tk) (Og none) t gv ∧ t.dep ≤ 3 ∧ t.size ≤ 13 := fun t ht => by
      rcases K with h | ⟨k1, k2⟩
      · rw [h] at ht; cases ht
      rcases q with h | ⟨u, h, hw, d, z⟩
      · have h' : rs = [] := h
        rw [h'] at ht; cases ht
      · have h' : rs = [u] := h
        rw [h'] at ht
        rw [List.mem_singleton.mp ht]
        exact ⟨right_wk (fun _ h => h) U (fun _ e => by cases e) k2 hw, d, z⟩
    have RT : RtOk us (Sok us) (xs tk) := ⟨fun s h => h, fun n hn => ⟨xs_names hn, T.kds _ (xs_kinds hn)⟩, by have := xs_len tk; omega⟩
    dsimp only [atV]
    simp only [if_true]
    rw [sat_seq]
    have cO : ∀ h : AH, seqOf h c_OUTER = some [.str "xa", .str "xb", .str "xc", .str "xd"] := fun _ => rfl
    have lr : decide (((rs.map Tm.enc).length : Int) ≤ 1) = true := by rw [decide_eq_true_eq]; simp; omega
    simp_arith [-sat_seq, lr, eq_sat (need_ok _)]
    rw [sat_seq]
    try simp_arith [-sat_seq]
    refine forL_sat _ _ _ (fun i e h' => ∃ e7, e = [some (PV.ref 1),
          some (PV.tup [PV.str wf, PV.lst (List.map PV.str tk), PV.str gv, PV.non, PV.lst (List.map Tm.enc rs)]),
          some (PV.str wf), some (PV.lst (List.map PV.str tk)), some (PV.str gv), some PV.non,
          some (PV.lst (List.map Tm.enc rs)), e7, none, none, none] ∧ h' = h) ?turn ?fin _ 0 _ _ (Nat.add_zero _) ⟨none, rfl, rfl⟩
    case turn =>
      rintro i e hh hi ⟨e7, rfl, rfl⟩
      have hi' : i < rs.length := by
        have z : i < (rs.map Tm.enc).length := hi
        rwa [List.length_map] at z
      refine ⟨rs[i].enc, _, by show (rs.map Tm.enc)[i]? = _; rw [List.getElem?_map, List.getElem?_eq_getElem hi']; rfl, rfl, ?_⟩
      obtain ⟨w1, w2, w3⟩ := hw _ (List.getElem_mem hi')
      simp_arith [cO, zip_outer T.len, G.meth (m := "check_right") (tab := mt_check_right) (by decide) rfl, eq_sat (check_right_ok G U RT w1 w2 (by omega) (fun n h => h) _)]
      refine ⟨_, _, rfl, rfl, ?_⟩
      rw [zip_outer T.len, eq_sat (check_right_ok G U RT w1 w2 (by omega) (fun n h => h) _)]
      exact ⟨_, rfl, rfl⟩
    case fin =>
      rintro e hh ⟨e7, rfl, rfl⟩
      refine ⟨rfl, ?_⟩
      refine puts_ok G (w := ⟨wf, tk, gv, none, rs⟩) hz ns ?_
      obtain ⟨P1, P2, P3⟩ := putH_ok G ⟨wf, tk, gv, none, rs⟩
      dsimp only [atV]
      simp_arith []
      rw [popS_same P2]
      exact ⟨rfl, P1, P2, P3⟩
  | some a =>
    dsimp only [atV]
    simp only [Bool.false_eq_true, if_false]
    try simp_arith [-sat_seq]
    refine puts_ok G (w := ⟨wf, tk, gv, some a, rs⟩) hz ns ?_
    obtain ⟨P1, P2, P3⟩ := putH_ok G ⟨wf, tk, gv, some a, rs⟩
    generalize putH h us ⟨wf, tk, gv, some a, rs⟩ = hp at P1 P2 P3 ⊢
    have U2 := U.push T hz hf
    obtain ⟨k, ha, hlr, hF⟩ := T.rs
    have ⟨k1, k2⟩ : (∀ t ∈ tk, K3 t) ∧ K3 gv := by
      rcases T.kt with h | ⟨_, _, h⟩
      · exact h
      · cases h
    dsimp only at ha hlr hF
    have ha' : a < tk.length := (List.getElem?_eq_some_iff.mp ha).1
    have kk : K3 k := k1 _ (List.mem_of_getElem? ha)
    dsimp only [atV]
    rw [sat_seq]
    try simp_arith [-sat_seq]
    rw [sat_seq]
    have c1 : decide ((0 : Int) ≤ (a : Nat)) = true := by rw [decide_eq_true_eq]; omega
    have c2 : decide ((a : Int) < ((tk.map PV.str).length : Nat)) = true := by rw [decide_eq_true_eq]; simp; omega
    simp_arith [-sat_seq, kit_ii, kit_ib, sat_chn, c1, c2, eq_sat (need_ok _)]
    rw [sat_seq]
    simp_arith [-sat_seq, att_of P1.self (f := "makers_row") (v := .ref 2) rfl, atI_nat, List.getElem?_map, ha]
    obtain ⟨n, g1, g2⟩ := maker_row P1 kk
    refine ⟨_, rfl, .ref n, by rw [ix_dicR P1.mr]; exact g1, ?_⟩
    have dl : datOf hp (.lst ((mks k).map fun m => PV.str m.1)) = some (.lst ((mks k).map fun m => PV.str m.1)) := by
      have := dat_strs (h := hp) ((mks k).map (·.1))
      rw [List.map_map] at this
      exact this
    have lows : PV.lowL 0 ((mks k).map fun m => PV.str m.1) = true := by
      have := strs_low 0 ((mks k).map (·.1))
      rw [List.map_map] at this
      exact this
    have mne : mks k ≠ [] := by rcases kk with rfl | rfl | rfl <;> decide
    have lr : rs.length = (mks k).length := hlr
    rw [sat_seq]
    simp_arith [-sat_seq, dat_refL g2 lows dl, lst_eq_nil, List.map_eq_nil_iff, mne, lenP_ref g2, List.length_map, lr, decide_false, decide_true, eq_sat (need_ok _)]
    rw [sat_seq]
    simp_arith [-sat_seq]
    have sR : srcP hp (.ref n) = some (true, itN n (mks k).length) := by
      show Option.map (fun (xs : List PV) => (true, itN n xs.length)) (lstOf hp (.ref n)) = _
      rw [lstOf_ref g2]; simp
    refine ⟨_, _, _, _, rfl, rfl, sR, ?_⟩
    let w : Told := ⟨wf, tk, gv, some a, rs⟩
    have hwm : w ∈ us ++ [w] := by simp
    refine forL_sat _ _ _ (fun i e h' => ∃ e7 e9, e = [some (PV.ref 1),
          some (PV.tup [PV.str wf, PV.lst (List.map PV.str tk), PV.str gv, PV.int (a : Nat), PV.lst (List.map Tm.enc rs)]),
          some (PV.str wf), some (PV.lst (List.map PV.str tk)), some (PV.str gv), some (PV.int (a : Nat)),
          some (PV.lst (List.map Tm.enc rs)), e7, some (PV.ref n), e9, none] ∧ h' = hp) ?turn ?fin _ 0 _ _ (Nat.add_zero _) ⟨none, none, rfl, rfl⟩
    case turn =>
      rintro i e hh hi ⟨e7, e9, rfl, rfl⟩
      have hi1 : i < rs.length := by
        have z : i < min (rs.map Tm.enc).length (mks k).length := hi
        rw [List.length_map] at z; omega
      have hi2 : i < (mks k).length := by omega
      refine ⟨.tup [rs[i].enc, .str ((mks k)[i]).1], _, ?_, rfl, ?_⟩
      · show (match (rs.map Tm.enc)[i]?, (itN n (mks k).length).get hh i with | some x, some y => some (PV.tup [x, y]) | _, _ => none) = _
        rw [itN_get g2, List.getElem?_map, List.getElem?_map, List.getElem?_eq_getElem hi1, List.getElem?_eq_getElem hi2]
        rfl
      · obtain ⟨w1, w2, w3⟩ := hF i _ _ (List.getElem?_eq_getElem hi1) (List.getElem?_eq_getElem hi2)
        have rne : rs ≠ [] := fun e => by rw [e] at hi1; exact Nat.not_lt_zero _ hi1
        have wk := right_wk (us := us) (vs := us ++ [w]) (fun v hv => List.mem_append_left _ hv) U (fun o ho => by
          cases ho
          exact ⟨w, hwm, rfl, rne, k1⟩) k2 w1
        have cf := check_falling_ok (w := w) P1 U2 hwm rfl ha kk T.len k1 (List.getElem_mem hi2) wk w2 w3
        simp_arith [P1.meth (m := "check_falling") (tab := mt_check_falling) (by decide) rfl]
        rw [eq_sat (cf _)]
        exact ⟨_, _, rfl, rfl⟩
    case fin =>
      rintro e hh ⟨e7, e9, rfl, rfl⟩
      refine ⟨?_, ?_⟩
      · show ((itS (rs.map Tm.enc)).fin hh && (itN n (mks k).length).fin hh) = true
        have := itN_fin g2
        rw [List.length_map] at this
        rw [this]; rfl
      · try simp_arith []
        rw [popS_same P2]
        exact ⟨rfl, P1, P2, P3⟩
end
end K72
end
section
set_option Elab.async false
set_option linter.all false
set_option maxRecDepth 100000
namespace K72
open PySem Mn
local macro_rules
  | `(tactic| simp_arith [$ls,*]) => `(tactic| simp only [sat_ok, sat_bad, sat_bind, sat_C, sat_nil, sat_cons, sat_var, sat_tup, sat_lst, sat_mkL, sat_op2, sat_opL, sat_call, sat_att, sat_meth, sat_tv, sat_and, sat_or, sat_not, sat_yes, sat_andV, sat_orV, sat_notV, sat_ifE, sat_seq, sat_dnx, sat_ret, sat_retN, sat_exp, sat_set, sat_if, sat_never, sat_unp, sat_lset, sat_dput, sat_fset, sat_aug, sat_for, sat_comp, sat_fI, sat_sub, sat_div, sat_mod, sat_addI, sat_mulI, sat_addL, sat_addT, sat_addS, sat_ix, sat_in, sat_is, sat_isnot, sat_len, sat_pow, sat_bm, sat_sl, sat_part, sat_nopart, sat_eq, sat_ne, sat_seqI, seqI_lst, seqI_tup, ix_tup, ix_lst, ix_scr, atI_0, atI_1, atI_2, atI_3, atI_4, dat_str, dat_int, dat_non, dat_nil, eq_str, eq_int, PV.isN, fnE, List.map_cons, List.map_nil, List.length_cons, List.length_nil, Nat.reduceAdd, Nat.reduceSub, List.reduceReplicate, List.cons_append, List.nil_append, List.append_nil, List.getElem?_cons_succ, List.getElem?_cons_zero, List.set_cons_succ, List.set_cons_zero, Option.some.injEq, PV.bl.injEq, PV.int.injEq, exists_eq_left', exists_eq_left, decide_eq_true_eq, Bool.not_eq_true', Nat.reduceLeDiff, true_and, and_true, Bool.false_eq_true, if_true, if_false, gt_iff_lt, ge_iff_le, reduceCtorEq, false_and, and_false, exists_false, Bool.not_true, Bool.not_false, sat_rng1, sat_rng2, sat_zip, sat_zipL, sat_listOf, sat_tupOf, sat_all, sat_any, sat_isi, sat_make, sat_dic0, seqOf_lst, seqOf_tup, lstOf_lst, lenP_lst, lenP_tup, srcP_lst, srcP_tup, tyP_str, tyP_tup, tyP_lst, tyP_int, tyP_non, Option.bind_some, cut_to, cut_from, cut_toT, cut_fromT, wipeE, $ls,*])
def hK0 (x : AO) : AH := [x, .ins "Ground" fldN [.ref 2, .ref 3, .ref 4, .ref 5, .ref 6, .ref 7], .dic [] [], .dic [] [], .dic [] [], .dic [] [], .dic [] [], .dic [] []]
def hK (x : AO) : AH := [x, .ins "Ground" fldN [.ref 2, .ref 3, .ref 4, .ref 5, .ref 6, .ref 7], .dic kKeys [.ref 8, .ref 9, .ref 10, .ref 11], .dic (sKeys []) (sTakes []), .dic (sKeys []) (sGives []), .dic mKeys mTrue, .dic [] [], .dic [] [],
  .lst [.str "off", .str "on"], .lst [.str "zero", .str "next"], .lst [.str "none", .str "put"], .lst []]
theorem kinds_run (x : AO) (wv : PV) : dForL (gNm 3) (dSeq (dExp (dMeth "add_kind" mt_add_kind (dVar 0) (dCons (dVar 3) dNil))) dNx) (itS [kv "bit" (mks "bit"), kv "num" (mks "num"), kv "row" (mks "row"), kv "thing" (mks "thing")]) 4 0 [some (.ref 1), some kindsV, some wv, none] 1 (hK0 x) =
    .nx [some (.ref 1), some kindsV, some wv, some (kv "thing" (mks "thing"))] (hK x) := by kernel_rfl
theorem hK_ok (x : AO) : GOk (hK x) [] := ⟨rfl, rfl, rfl, rfl, rfl, rfl, rfl, rfl, rfl, rfl, rfl⟩
def gV (ws : List Told) : PV := .ins "Ground" fldN [.dic kKeys [.lst [.str "off", .str "on"], .lst [.str "zero", .str "next"], .lst [.str "none", .str "put"], .lst []], .dic (sKeys ws) (sTakes ws), .dic (sKeys ws) (sGives ws), .dic mKeys mTrue, .dic (wKeys ws) (wAts ws), .dic (wKeys ws) (wRs ws)]
theorem init_ok (x : AO) {ws : List Told} (W : WsOk ws) : (f_Ground___init__ [.ref 1, kindsV, .lst (ws.map Told.enc)] 1 [x, .ins "Ground" [] []]).sat fun v h' => v = .non ∧ GOk h' ws ∧ h'.length = 12 ∧ h'[0]? = some x := by
  unfold f_Ground___init__
  rw [sat_fn0]
  unfold d_Ground___init__
  iterate 6
    rw [sat_seq]
    try simp_arith [-sat_seq]
    refine ⟨_, rfl, ?_⟩
  rw [sat_seq]
  try simp_arith [-sat_seq]
  have k1 : ∀ b h, fIsi [kindsV, .ty "list"] b h = .ok (.bl true) h := fun _ _ => rfl
  simp_arith [-sat_seq, kindsV, kit_ll]
  show SR.sat (dSeq _ _ _ 1 (hK0 x)) _ _
  have lw : decide (((ws.map Told.enc).length : Int) ≤ 16) = true := by rw [decide_eq_true_eq]; have := W.len; simp; omega
  have l2 : ∀ b (h : AH), fLe (PV.int ((ws.map Told.enc).length : Nat)) c_MOST_WORKS b h = .ok (.bl true) h := fun b h => by
    show Mn.R.ok (PV.bl (decide (((ws.map Told.enc).length : Int) ≤ 16))) h = _
    rw [lw]
  rw [sat_seq]
  simp_arith [-sat_seq, kit_ll, eq_sat (l2 _ _), eq_sat (need_ok _)]
  rw [sat_seq]
  simp_arith [-sat_seq]
  have kr := kinds_run x (.lst (ws.map Told.enc))
  unfold kindsV at kr
  show SR.sat (dForL _ _ _ 4 0 _ 1 (hK0 x)) _ _
  rw [kr]
  show SR.sat (dSeq _ _ _ 1 (hK x)) _ _
  rw [sat_seq]
  simp_arith [-sat_seq]
  refine forL_sat _ _ _ (fun i e h' => ∃ e3, e = [some (.ref 1), some (.lst [kv "bit" (mks "bit"), kv "num" (mks "num"), kv "row" (mks "row"), kv "thing" (mks "thing")]), some (.lst (ws.map Told.enc)), e3] ∧ GOk h' (ws.take i) ∧ h'.length = 12 ∧ h'[0]? = some x) ?turn ?fin _ 0 _ _ (Nat.add_zero _) ⟨_, rfl, hK_ok x, rfl, rfl⟩
  case turn =>
    rintro i e hh hi ⟨e3, rfl, G, hl, h0⟩
    have hi' : i < ws.length := by
      have z : i < (ws.map Told.enc).length := hi
      rwa [List.length_map] at z
    refine ⟨ws[i].enc, _, by show (ws.map Told.enc)[i]? = _; rw [List.getElem?_map, List.getElem?_eq_getElem hi']; rfl, rfl, ?_⟩
    have tl : (ws.take i).length = i := by rw [List.length_take]; omega
    have six := W.len
    have U : WsOk (ws.take i) := by
      refine ⟨?_, by omega, fun j w e => ?_⟩
      · rw [List.map_take, W.nm, List.take_take, tl, Nat.min_eq_left (by omega)]
      · have hj : j < i := by rw [← tl]; exact (List.getElem?_eq_some_iff.mp e).1
        rw [List.getElem?_take_of_lt hj] at e
        rw [List.take_take, Nat.min_eq_left (by omega)]
        exact W.ok j w e
    have hf : ws[i].f = fnm.getD (ws.take i).length "" := by
      have q := congrArg (fun l : List Str => l[i]?) W.nm
      simp only [List.getElem?_map, List.getElem?_eq_getElem hi', Option.map_some, List.getElem?_take_of_lt hi'] at q
      rw [tl, List.getD, ← q]; rfl
    have ta : ws.take (i + 1) = ws.take i ++ [ws[i]] := by rw [List.take_succ, List.getElem?_eq_getElem hi']; rfl
    simp_arith [G.meth (m := "add_work") (tab := mt_add_work) (by decide) rfl]
    refine (add_work_ok G U (W.ok i _ (List.getElem?_eq_getElem hi')) (by omega) hf _).mono ?_
    rintro v h3 ⟨_, G3, l3, z3⟩
    exact ⟨_, rfl, by rw [ta]; exact G3, by omega, by rw [z3]; exact h0⟩
  case fin =>
    rintro e hh ⟨e3, rfl, G, hl, h0⟩
    refine ⟨rfl, ?_⟩
    rw [show (itS (ws.map Told.enc)).n = ws.length from List.length_map .., List.take_length] at G
    exact ⟨G, hl, h0⟩
theorem rz_dicR {h : AH} {f n i : Nat} {ks : List L2.Key} {vs : List PV} (hi : n ≤ i) (e : h[i]? = some (.dic ks vs)) (lo : PV.lowL n vs = true) : rz (f + 2) h n (.ref i) = some (.dic ks vs) := by
  rw [rz]
  have l0 : (PV.ref i).low n = false := by simp [PV.low]; omega
  simp only [l0, e]
  simp [rzL, mapM_low lo]
theorem rz_lstR {h : AH} {f n i : Nat} {vs : List PV} (hi : n ≤ i) (e : h[i]? = some (.lst vs)) (lo : PV.lowL n vs = true) : rz (f + 2) h n (.ref i) = some (.lst vs) := by
  rw [rz]
  have l0 : (PV.ref i).low n = false := by simp [PV.low]; omega
  simp only [l0, e]
  simp [rzL, mapM_low lo]
theorem low_map {α : Type} (n : Nat) (xs : List α) (f : α → PV) (hf : ∀ x, (f x).low n = true) : PV.lowL n (xs.map f) = true := PV.lowL_iff.mpr fun y hy => by
  obtain ⟨x, _, rfl⟩ := List.mem_map.mp hy
  exact hf x
theorem rz_ground {h : AH} {ws : List Told} (G : GOk h ws) : rz 8 h 1 (.ref 1) = some (gV ws) := by
  have r2 : rz 6 h 1 (.ref 2) = some (.dic kKeys [.lst [.str "off", .str "on"], .lst [.str "zero", .str "next"], .lst [.str "none", .str "put"], .lst []]) := by
    rw [rz]
    have l0 : (PV.ref 2).low 1 = false := rfl
    simp only [l0, G.mr]
    simp only [Bool.false_eq_true, if_false, rzL, List.mapM_cons, List.mapM_nil, rz_lstR (f := 2) (show 1 ≤ 8 by decide) G.l0 rfl, rz_lstR (f := 2) (show 1 ≤ 9 by decide) G.l1 rfl, rz_lstR (f := 2) (show 1 ≤ 10 by decide) G.l2 rfl, rz_lstR (f := 2) (show 1 ≤ 11 by decide) G.l3 rfl]
    rfl
  have r3 := rz_dicR (f := 4) (show 1 ≤ 3 by decide) G.tr (low_map _ _ _ fun s => by
    show PV.lowL 1 (s.2.1.map PV.str) = true
    exact strs_low _ _)
  have r4 := rz_dicR (f := 4) (show 1 ≤ 4 by decide) G.gr (low_map _ _ _ fun s => rfl)
  have r5 := rz_dicR (f := 4) (show 1 ≤ 5 by decide) G.mn (low_map _ _ _ fun s => rfl)
  have r6 := rz_dicR (f := 4) (show 1 ≤ 6 by decide) G.fr (low_map _ _ _ fun w => by cases w.at_ <;> rfl)
  have r7 := rz_dicR (f := 4) (show 1 ≤ 7 by decide) G.rr (low_map _ _ _ fun w => low_tms 1 w.rs)
  rw [rz]
  have l0 : (PV.ref 1).low 1 = false := rfl
  simp only [l0, G.self]
  simp only [Bool.false_eq_true, if_false, rzL, List.mapM_cons, List.mapM_nil, r2, r3, r4, r5, r6, r7]
  rfl
theorem ground_ok (x : AO) {ws : List Told} (W : WsOk ws) (b : Nat) : f__law_ground [.lst (ws.map Told.enc)] b [x] = .ok (gV ws) [x] := by
  apply sat_eq_of
  unfold f__law_ground
  rw [sat_fn]
  unfold d__law_ground
  simp_arith [eq_sat (kinds_eq _ _)]
  refine compL_typ _ _ _ ws Told.enc (fun _ => true) Told.enc (fun w hw => ?_) ?_
  · refine ⟨_, rfl, ⟨rfl, rfl⟩, fun _ => ?_⟩
    unfold Told.enc
    simp_arith []
  rw [filter_yes]
  refine (init_ok x W).mono ?_
  rintro v h' ⟨rfl, G, hl, h0⟩
  refine ⟨rfl, ?_⟩
  have hz : h' = x :: h'.drop 1 := by
    cases h' with
    | nil => cases h0
    | cons y h' => cases h0; rfl
  show PopS 1 (.ref 1) h' _
  refine (popS_rz (by omega) (rz_ground G)).mpr ⟨rfl, ?_⟩
  rw [hz]; rfl
end K72
end
section
set_option Elab.async false
set_option linter.all false
set_option maxRecDepth 100000
namespace K72
open PySem Mn
local macro_rules
  | `(tactic| simp_arith [$ls,*]) => `(tactic| simp only [sat_ok, sat_bad, sat_bind, sat_C, sat_nil, sat_cons, sat_var, sat_tup, sat_lst, sat_mkL, sat_op2, sat_opL, sat_call, sat_att, sat_meth, sat_tv, sat_and, sat_or, sat_not, sat_yes, sat_andV, sat_orV, sat_notV, sat_ifE, sat_seq, sat_dnx, sat_ret, sat_retN, sat_exp, sat_set, sat_if, sat_never, sat_unp, sat_lset, sat_dput, sat_fset, sat_aug, sat_for, sat_comp, sat_fI, sat_sub, sat_div, sat_mod, sat_addI, sat_mulI, sat_addL, sat_addT, sat_addS, sat_ix, sat_in, sat_is, sat_isnot, sat_len, sat_pow, sat_bm, sat_sl, sat_part, sat_nopart, sat_eq, sat_ne, sat_seqI, seqI_lst, seqI_tup, ix_tup, ix_lst, ix_scr, atI_0, atI_1, atI_2, atI_3, atI_4, dat_str, dat_int, dat_non, dat_nil, eq_str, eq_int, PV.isN, fnE, List.map_cons, List.map_nil, List.length_cons, List.length_nil, Nat.reduceAdd, Nat.reduceSub, List.reduceReplicate, List.cons_append, List.nil_append, List.append_nil, List.getElem?_cons_succ, List.getElem?_cons_zero, List.set_cons_succ, List.set_cons_zero, Option.some.injEq, PV.bl.injEq, PV.int.injEq, exists_eq_left', exists_eq_left, decide_eq_true_eq, Bool.not_eq_true', Nat.reduceLeDiff, true_and, and_true, Bool.false_eq_true, if_true, if_false, gt_iff_lt, ge_iff_le, reduceCtorEq, false_and, and_false, exists_false, Bool.not_true, Bool.not_false, sat_rng1, sat_rng2, sat_zip, sat_zipL, sat_listOf, sat_tupOf, sat_all, sat_any, sat_isi, sat_make, sat_dic0, seqOf_lst, seqOf_tup, lstOf_lst, lenP_lst, lenP_tup, srcP_lst, srcP_tup, tyP_str, tyP_tup, tyP_lst, tyP_int, tyP_non, Option.bind_some, cut_to, cut_from, cut_toT, cut_fromT, wipeE, $ls,*])
/-! ## patterns -/
inductive Pk (ws : List Told) (ks : List Str) : Tm → Str → Prop where
  | nm {x k : Str} : Pk ws ks (.nm x k) k
  | bd {n : Nat} {k : Str} : ks[n]? = some k → Pk ws ks (.bd n) k
  | mk {f k : Str} {tk : List Str} {ps : List Tm} : (f, tk, k) ∈ sigs ws → ps.length = tk.length → (∀ (i : Nat) (p : Tm) (t : Str), ps[i]? = some p → tk[i]? = some t → Pk ws ks p t) → Pk ws ks (.mk f ps) k
theorem Wk.pk {ws : List Told} {ks : List Str} {S : Sig → Prop} {M : Nm → Prop} {O : Str → List Tm → Prop} (hS : ∀ s, S s → s ∈ sigs ws) {t : Tm} {k : Str} (w : Wk S M O t k) : Pk ws ks t k := by
  induction w with
  | nm _ => exact .nm
  | mk hs hl ha ho ih => exact .mk (hS _ hs) hl ih
theorem wkg_pk {ns : List Nm} {ws : List Told} {ks : List Str} {t : Tm} {k : Str} (w : WkG ns ws none t k) : Pk ws ks t k := w.pk fun s h => by
  rcases h with h | ⟨w, hw, rfl⟩ | ⟨w, e, _⟩
  · exact List.mem_append_left _ (sig0_mk h).1
  · exact List.mem_append_right _ (List.mem_map.mpr ⟨w, hw, rfl⟩)
  · cases e
theorem sig_unique {ws : List Told} (W : WsOk ws) {s s' : Sig} (h : s ∈ sigs ws) (h' : s' ∈ sigs ws) (e : s.1 = s'.1) : s = s' := by
  have a := find_name W.nd h
  have b := find_name W.nd h'
  rw [e] at a
  rw [a] at b
  exact Option.some.inj b
section
variable {h : AH} {ws : List Told}
theorem gv_cls (ws : List Told) : ∃ vs, clsOf h (gV ws) = some (("Ground" : Str), fldN, vs) ∧ fldAt fldN vs "gives_row" = some (.dic (sKeys ws) (sGives ws)) := ⟨_, rfl, rfl⟩
theorem gvGives (W : WsOk ws) {s : Sig} (hs : s ∈ sigs ws) (b : Nat) : f_Ground_gives [gV ws, .str s.1] b h = .ok (.str s.2.2) h := by
  apply sat_eq_of
  unfold f_Ground_gives
  rw [sat_fn]
  unfold d_Ground_gives
  obtain ⟨vs, e1, e2⟩ := gv_cls (h := h) ws
  simp_arith []
  refine ⟨_, _, _, _, e1, by decide, e2, ?_⟩
  have ix : ixP h (.dic (sKeys ws) (sGives ws)) (.str s.1) = some (.str s.2.2) := by
    show dGetP (sKeys ws) (sGives ws) (.inr s.1) = _
    rw [sGives, getS W hs]
  rw [ix]
  refine ⟨_, rfl, ?_⟩
  rw [popS_same rfl]
  exact ⟨rfl, rfl⟩
def notBd : Tm → Prop
  | .bd _ => False
  | _ => True
theorem kind_of_eq (W : WsOk ws) {t : Tm} {k : Str} {ks : List Str} (p : Pk ws ks t k) (nb : notBd t) (b : Nat) : f_kind_of [gV ws, t.enc] b h = .ok (.str k) h := by
  apply sat_eq_of
  unfold f_kind_of
  rw [sat_fn]
  unfold d_kind_of
  cases p with
  | nm =>
    rw [enc_nm]
    simp_arith []
    rw [popS_same rfl]
    exact ⟨rfl, rfl⟩
  | bd => exact nb.elim
  | mk hs hl ha =>
    obtain ⟨vs, e1, e2⟩ := gv_cls (h := h) ws
    rw [enc_mk]
    simp_arith [s_mn]
    refine ⟨_, _, _, _, _, e1, by decide, rfl, rfl, ?_⟩
    rw [eq_sat (gvGives W hs _), popS_same rfl]
    exact ⟨rfl, rfl⟩
/-! ## all parts -/
mutual
def allP : Tm → List Tm
  | .mk f ps => .mk f ps :: allPs ps
  | .nm x k => [.nm x k]
  | .bd n => [.bd n]
def allPs : List Tm → List Tm
  | [] => []
  | t :: ts => allP t ++ allPs ts
end
theorem allPs_app (ts us : List Tm) : allPs (ts ++ us) = allPs ts ++ allPs us := by
  induction ts with
  | nil => rfl
  | cons t ts ih => rw [List.cons_append, allPs, allPs, ih, List.append_assoc]
mutual
theorem allP_len : ∀ t : Tm, (allP t).length = t.size
  | .mk f ps => by rw [allP, List.length_cons, allPs_len ps, Tm.size]
  | .nm x k => rfl
  | .bd n => rfl
theorem allPs_len : ∀ ts : List Tm, (allPs ts).length = Tm.sizes ts
  | [] => rfl
  | t :: ts => by rw [allPs, List.length_append, allP_len t, allPs_len ts, Tm.sizes]
end
mutual
theorem allP_sub : ∀ t u : Tm, u ∈ allP t → Sub u t
  | .mk f ps, u, h => by
    rw [allP] at h
    rcases List.mem_cons.mp h with rfl | h
    · exact .refl _
    · obtain ⟨p, hp, s⟩ := allPs_sub ps u h
      exact .part hp s
  | .nm x k, u, h => by rw [allP] at h; rw [List.mem_singleton.mp h]; exact .refl _
  | .bd n, u, h => by rw [allP] at h; rw [List.mem_singleton.mp h]; exact .refl _
theorem allPs_sub : ∀ (ts : List Tm) (u : Tm), u ∈ allPs ts → ∃ p ∈ ts, Sub u p
  | [], u, h => by cases h
  | t :: ts, u, h => by
    rw [allPs] at h
    rcases List.mem_append.mp h with h | h
    · exact ⟨t, List.mem_cons_self, allP_sub t u h⟩
    · obtain ⟨p, hp, s⟩ := allPs_sub ts u h
      exact ⟨p, List.mem_cons_of_mem _ hp, s⟩
end
theorem sizes_take (ts : List Tm) (i : Nat) : Tm.sizes (ts.take i) ≤ Tm.sizes ts := by
  have := sizes_cat (ts.take i) (ts.drop i)
  rw [List.take_append_drop] at this
  omega
theorem all_parts_eq : ∀ (m : Nat) (t : Tm) (b : Nat) (h : AH), t.dep ≤ m → t.size ≤ 10000 → f__law_all_parts m [t.enc] b h = .ok (.lst ((allP t).map Tm.enc)) h
  | 0, t, b, h, d, _ => by cases t <;> simp [Tm.dep] at d
  | m + 1, t, b, h, d, z => by
    apply sat_eq_of
    show (mkFn true 3 (d__law_all_parts (f__law_all_parts m)) _ b h).sat _
    rw [sat_fn]
    unfold d__law_all_parts
    cases t with
    | nm x k =>
      rw [enc_nm]
      simp_arith [s_nm]
      rw [popS_same rfl]
      exact ⟨rfl, rfl⟩
    | bd n =>
      rw [enc_bd]
      simp_arith [s_bm]
      rw [popS_same rfl]
      exact ⟨rfl, rfl⟩
    | mk f ps =>
      have dm : Tm.deps ps ≤ m := by simp only [Tm.dep] at d; omega
      simp only [Tm.size] at z
      rw [enc_mk]
      simp_arith []
      refine forL_sat _ _ _ (fun i e h' => ∃ e2, e = [some (.tup [.str "made", .str f, .tup (ps.map Tm.enc)]), some (.lst ((Tm.mk f ps :: allPs (ps.take i)).map Tm.enc)), e2] ∧ h' = h) ?turn ?fin _ 0 _ _ (Nat.add_zero _) ⟨none, by rw [List.take_zero, allPs, List.map_cons, enc_mk]; rfl, rfl⟩
      case turn =>
        rintro i e hh hi ⟨e2, rfl, rfl⟩
        have hi' : i < ps.length := by
          have z : i < (ps.map Tm.enc).length := hi
          rwa [List.length_map] at z
        refine ⟨ps[i].enc, _, by show (ps.map Tm.enc)[i]? = _; rw [List.getElem?_map, List.getElem?_eq_getElem hi']; rfl, rfl, ?_⟩
        have si : ps[i].size ≤ Tm.sizes ps := by
          have := sizes_cat (ps.take i) (ps.drop i)
          rw [List.take_append_drop, List.drop_eq_getElem_cons hi'] at this
          simp only [Tm.sizes] at this
          omega
        have ta : ps.take (i + 1) = ps.take i ++ [ps[i]] := by rw [List.take_succ, List.getElem?_eq_getElem hi']; rfl
        have st := sizes_take ps i
        simp_arith [eq_sat (all_parts_eq m ps[i] _ _ (deps_le.mp dm _ (List.getElem_mem hi')) (by omega))]
        refine ⟨by simp only [List.length_map, allPs_len, allP_len]; omega, some ps[i].enc, ?_⟩
        rw [ta, allPs_app]
        simp [allPs]
      case fin =>
        rintro e hh ⟨e2, rfl, rfl⟩
        refine ⟨rfl, ?_⟩
        simp_arith []
        rw [popS_same rfl]
        refine ⟨?_, rfl⟩
        rw [show (itS (ps.map Tm.enc)).n = ps.length from List.length_map .., List.take_length, allP]
        rfl
end
end K72
end
section
set_option Elab.async false
set_option linter.all false
set_option maxRecDepth 100000
namespace K72
open PySem Mn
local macro_rules
  | `(tactic| simp_arith [$ls,*]) => `(tactic| simp only [sat_ok, sat_bad, sat_bind, sat_C, sat_nil, sat_cons, sat_var, sat_tup, sat_lst, sat_mkL, sat_op2, sat_opL, sat_call, sat_att, sat_meth, sat_tv, sat_and, sat_or, sat_not, sat_yes, sat_andV, sat_orV, sat_notV, sat_ifE, sat_seq, sat_dnx, sat_ret, sat_retN, sat_exp, sat_set, sat_if, sat_never, sat_unp, sat_lset, sat_dput, sat_fset, sat_aug, sat_for, sat_comp, sat_fI, sat_sub, sat_div, sat_mod, sat_addI, sat_mulI, sat_addL, sat_addT, sat_addS, sat_ix, sat_in, sat_is, sat_isnot, sat_len, sat_pow, sat_bm, sat_sl, sat_part, sat_nopart, sat_eq, sat_ne, sat_seqI, seqI_lst, seqI_tup, ix_tup, ix_lst, ix_scr, atI_0, atI_1, atI_2, atI_3, atI_4, dat_str, dat_int, dat_non, dat_nil, eq_str, eq_int, PV.isN, fnE, List.map_cons, List.map_nil, List.length_cons, List.length_nil, Nat.reduceAdd, Nat.reduceSub, List.reduceReplicate, List.cons_append, List.nil_append, List.append_nil, List.getElem?_cons_succ, List.getElem?_cons_zero, List.set_cons_succ, List.set_cons_zero, Option.some.injEq, PV.bl.injEq, PV.int.injEq, exists_eq_left', exists_eq_left, decide_eq_true_eq, Bool.not_eq_true', Nat.reduceLeDiff, true_and, and_true, Bool.false_eq_true, if_true, if_false, gt_iff_lt, ge_iff_le, reduceCtorEq, false_and, and_false, exists_false, Bool.not_true, Bool.not_false, sat_rng1, sat_rng2, sat_zip, sat_zipL, sat_listOf, sat_tupOf, sat_all, sat_any, sat_isi, sat_make, sat_dic0, seqOf_lst, seqOf_tup, lstOf_lst, lenP_lst, lenP_tup, srcP_lst, srcP_tup, tyP_str, tyP_tup, tyP_lst, tyP_int, tyP_non, Option.bind_some, cut_to, cut_from, cut_toT, cut_fromT, wipeE, $ls,*])
/-! ## names bound -/
instance : DecidableEq Tm := fun t u => decidable_of_iff (t.enc.eq u.enc = true) (eq_enc t u)
def idxN : List Nm → Nm → Option Nat
  | [], _ => none
  | n :: ns, m => if n = m then some 0 else (idxN ns m).map (· + 1)
mutual
def bnd (ns : List Nm) : Tm → Tm
  | .nm x k => match idxN ns (x, k) with
    | some i => .bd i
    | none => .nm x k
  | .mk f ps => .mk f (bnds ns ps)
  | .bd n => .bd n
def bnds (ns : List Nm) : List Tm → List Tm
  | [] => []
  | t :: ts => bnd ns t :: bnds ns ts
end
theorem bnds_map (ns : List Nm) : ∀ ts, bnds ns ts = ts.map (bnd ns)
  | [] => rfl
  | t :: ts => by rw [bnds, bnds_map ns ts]; rfl
structure NV (h : AH) (nv : PV) (ns : List Nm) : Prop where
  isl : isL h nv = true
  mem : ∀ x, inP h x nv = match datOf h x with
    | some d => some ((ns.map nmV).any fun e => e.eq d)
    | none => none
  dat : datOf h nv = some (.lst (ns.map nmV))
theorem NV.lst (h : AH) (ns : List Nm) : NV h (.lst (ns.map nmV)) ns where
  isl := rfl
  mem := fun x => by
    unfold inP
    rw [show dicOf h (.lst (ns.map nmV)) = none from rfl]
    simp only [dat_nms]
    cases datOf h x <;> rfl
  dat := dat_nms ns
theorem nms_low (n : Nat) (ns : List Nm) : PV.lowL n (ns.map nmV) = true := low_map n ns nmV fun _ => rfl
theorem NV.ref {h : AH} {n : Nat} {ns : List Nm} (e : h[n]? = some (.lst (ns.map nmV))) : NV h (.ref n) ns where
  isl := isL_ref e
  mem := fun x => by
    unfold inP
    have d : dicOf h (.ref n) = none := by unfold dicOf; simp only [e]
    rw [d]
    simp only [dat_refL e (nms_low 0 ns) (dat_nms ns)]
    cases datOf h x <;> rfl
  dat := dat_refL e (nms_low 0 ns) (dat_nms ns)
theorem nmV_eq (n : Nm) (t : Tm) : (nmV n).eq t.enc = decide (Tm.nm n.1 n.2 = t) := by
  rw [Bool.eq_iff_iff, decide_eq_true_eq]
  exact eq_enc _ _
theorem any_nm (ns : List Nm) (x k : Str) : ((ns.map nmV).any fun e => e.eq (Tm.nm x k).enc) = (idxN ns (x, k)).isSome ∧ NS.keyKs [] = some [] ∧ idxP (ns.map nmV) (Tm.nm x k).enc = idxN ns (x, k) := by
  refine ⟨?_, rfl, ?_⟩
  · induction ns with
    | nil => rfl
    | cons n ns ih =>
      simp only [List.map_cons, List.any_cons, idxN, ih, nmV_eq]
      by_cases z : n = (x, k)
      · subst z; simp
      · have : ¬ Tm.nm n.1 n.2 = Tm.nm x k := fun e => by injection e with e1 e2; exact z (Prod.ext e1 e2)
        simp [z, this]
  · induction ns with
    | nil => rfl
    | cons n ns ih =>
      simp only [List.map_cons, idxP, idxN, ih, nmV_eq]
      by_cases z : n = (x, k)
      · subst z; simp
      · have : ¬ Tm.nm n.1 n.2 = Tm.nm x k := fun e => by injection e with e1 e2; exact z (Prod.ext e1 e2)
        simp [z, this]
theorem any_mk (ns : List Nm) (f : Str) (ps : List Tm) : ((ns.map nmV).any fun e => e.eq (Tm.mk f ps).enc) = false := by
  rw [List.any_eq_false]
  intro e he
  obtain ⟨n, _, rfl⟩ := List.mem_map.mp he
  rw [nmV_eq]
  simp
theorem bound_eq {ns : List Nm} : ∀ (m : Nat) (t : Tm) (b : Nat) (h : AH) (nv : PV), NV h nv ns → (∀ n, ¬ Sub (.bd n) t) → t.dep ≤ m → t.dep ≤ 50 → f__law_bound m [t.enc, nv] b h = .ok (bnd ns t).enc h
  | 0, t, b, h, nv, V, nb, d, _ => by cases t <;> simp [Tm.dep] at d
  | m + 1, t, b, h, nv, V, nb, d, d50 => by
    apply sat_eq_of
    show (mkFn true 3 (d__law_bound (f__law_bound m)) _ b h).sat _
    rw [sat_fn]
    unfold d__law_bound
    cases t with
    | bd n => exact (nb n (.refl _)).elim
    | nm x k =>
      obtain ⟨a1, _, a2⟩ := any_nm ns x k
      simp_arith [V.mem, dat_tm d50, a1]
      cases e : idxN ns (x, k) with
      | none =>
        refine ⟨_, rfl, ?_⟩
        simp_arith [Option.isSome_none, Bool.xor_false, enc_nm, s_nm]
        rw [popS_same rfl]
        refine ⟨?_, rfl⟩
        unfold bnd
        rw [e]; rfl
      | some i =>
        simp_arith [Option.isSome_some, Bool.false_xor]
        refine ⟨V.isl, ?_⟩
        have ix : ∀ b, fIndex nv [(Tm.nm x k).enc] b h = .ok (.int i) h := fun b => by
          unfold fIndex
          simp only [V.dat, dat_tm d50, a2, e]
        rw [eq_sat (ix _), popS_same rfl]
        refine ⟨?_, rfl⟩
        unfold bnd
        rw [e]; rfl
    | mk f ps =>
      have dm : Tm.deps ps ≤ m := by simp only [Tm.dep] at d; omega
      have dm2 : Tm.deps ps ≤ 50 := by simp only [Tm.dep] at d50; omega
      simp_arith [V.mem, dat_tm d50, any_mk]
      refine ⟨_, rfl, ?_⟩
      rw [enc_mk]
      simp_arith [Bool.xor_false]
      refine compL_typ _ _ _ ps Tm.enc (fun _ => true) (fun t => (bnd ns t).enc) (fun t ht => ?_) ?_
      · refine ⟨_, rfl, ⟨rfl, rfl⟩, fun _ => ?_⟩
        simp_arith [eq_sat (bound_eq m t _ h nv V (fun n s => nb n (.part ht s)) (deps_le.mp dm _ ht) (deps_le.mp dm2 _ ht))]
      · rw [filter_yes]
        try simp_arith []
        rw [popS_same rfl]
        refine ⟨?_, rfl⟩
        rw [bnd, enc_mk, bnds_map, List.map_map]; rfl
end K72
end
section
set_option Elab.async false
set_option linter.all false
set_option maxRecDepth 100000
namespace K72
open PySem Mn
local macro_rules
  | `(tactic| simp_arith [$ls,*]) => `(tactic| simp only [sat_ok, sat_bad, sat_bind, sat_C, sat_nil, sat_cons, sat_var, sat_tup, sat_lst, sat_mkL, sat_op2, sat_opL, sat_call, sat_att, sat_meth, sat_tv, sat_and, sat_or, sat_not, sat_yes, sat_andV, sat_orV, sat_notV, sat_ifE, sat_seq, sat_dnx, sat_ret, sat_retN, sat_exp, sat_set, sat_if, sat_never, sat_unp, sat_lset, sat_dput, sat_fset, sat_aug, sat_for, sat_comp, sat_fI, sat_sub, sat_div, sat_mod, sat_addI, sat_mulI, sat_addL, sat_addT, sat_addS, sat_ix, sat_in, sat_is, sat_isnot, sat_len, sat_pow, sat_bm, sat_sl, sat_part, sat_nopart, sat_eq, sat_ne, sat_seqI, seqI_lst, seqI_tup, ix_tup, ix_lst, ix_scr, atI_0, atI_1, atI_2, atI_3, atI_4, dat_str, dat_int, dat_non, dat_nil, eq_str, eq_int, PV.isN, fnE, List.map_cons, List.map_nil, List.length_cons, List.length_nil, Nat.reduceAdd, Nat.reduceSub, List.reduceReplicate, List.cons_append, List.nil_append, List.append_nil, List.getElem?_cons_succ, List.getElem?_cons_zero, List.set_cons_succ, List.set_cons_zero, Option.some.injEq, PV.bl.injEq, PV.int.injEq, exists_eq_left', exists_eq_left, decide_eq_true_eq, Bool.not_eq_true', Nat.reduceLeDiff, true_and, and_true, Bool.false_eq_true, if_true, if_false, gt_iff_lt, ge_iff_le, reduceCtorEq, false_and, and_false, exists_false, Bool.not_true, Bool.not_false, sat_rng1, sat_rng2, sat_zip, sat_zipL, sat_listOf, sat_tupOf, sat_all, sat_any, sat_isi, sat_make, sat_dic0, seqOf_lst, seqOf_tup, lstOf_lst, lenP_lst, lenP_tup, srcP_lst, srcP_tup, tyP_str, tyP_tup, tyP_lst, tyP_int, tyP_non, Option.bind_some, cut_to, cut_from, cut_toT, cut_fromT, wipeE, $ls,*])
/-! ## bound ones filled -/
mutual
def instV (ps : List PV) : Tm → PV
  | .nm x k => (Tm.nm x k).enc
  | .bd n => ps.getD n .non
  | .mk f ts => .tup [.str "made", .str f, .tup (instVs ps ts)]
def instVs (ps : List PV) : List Tm → List PV
  | [] => []
  | t :: ts => instV ps t :: instVs ps ts
end
theorem instVs_map (ps : List PV) : ∀ ts, instVs ps ts = ts.map (instV ps)
  | [] => rfl
  | t :: ts => by rw [instVs, instVs_map ps ts]; rfl
mutual
def inst (σ : Nat → Tm) : Tm → Tm
  | .nm x k => .nm x k
  | .bd n => σ n
  | .mk f ts => .mk f (insts σ ts)
def insts (σ : Nat → Tm) : List Tm → List Tm
  | [] => []
  | t :: ts => inst σ t :: insts σ ts
end
theorem insts_map (σ : Nat → Tm) : ∀ ts, insts σ ts = ts.map (inst σ)
  | [] => rfl
  | t :: ts => by rw [insts, insts_map σ ts]; rfl
theorem inst_V {ps : List PV} {σ : Nat → Tm} : ∀ (t : Tm), (∀ n, Sub (.bd n) t → ps.getD n .non = (σ n).enc) → instV ps t = (inst σ t).enc := by
  intro t
  induction t using Tm.ind with
  | nm x k => intro _; rw [instV, inst]
  | bd n => intro h; rw [instV, inst]; exact h n (.refl _)
  | mk f ts ih =>
    intro h
    rw [instV, inst, enc_mk, instVs_map, insts_map, List.map_map]
    congr 1
    congr 1
    congr 1
    congr 1
    congr 1
    exact List.map_congr_left fun t ht => ih t ht fun n s => h n (.part ht s)
/-- all numbers below n -/
def Bel (n : Nat) (t : Tm) : Prop := ∀ k, Sub (.bd k) t → k < n
theorem Bel.part {n : Nat} {f : Str} {ps : List Tm} (h : Bel n (.mk f ps)) {p : Tm} (hp : p ∈ ps) : Bel n p := fun k s => h k (.part hp s)
theorem pk_sub {ws : List Told} {ks : List Str} {t u : Tm} {k : Str} (p : Pk ws ks t k) (s : Sub u t) : ∃ k', Pk ws ks u k' := by
  induction s generalizing k with
  | refl => exact ⟨k, p⟩
  | part hp _ ih =>
    cases p with
    | mk hs hl ha =>
      obtain ⟨i, e⟩ := List.mem_iff_getElem?.mp hp
      rename_i ps _ tk
      have hi : i < tk.length := by rw [← hl]; exact (List.getElem?_eq_some_iff.mp e).1
      exact ih (ha i _ _ e (List.getElem?_eq_getElem hi))
theorem pk_bel {ws : List Told} {ks : List Str} {t : Tm} {k : Str} (p : Pk ws ks t k) : Bel ks.length t := fun n s => by
  obtain ⟨k', q⟩ := pk_sub p s
  cases q with
  | bd e => exact (List.getElem?_eq_some_iff.mp e).1
theorem put_eq {h : AH} {pv : PV} {ps : List PV} (hp : ∀ n, n < ps.length → ixP h pv (.int (n : Nat)) = some (ps.getD n .non)) : ∀ (m : Nat) (t : Tm) (b : Nat), Bel ps.length t → t.dep ≤ m → f__law_put m [t.enc, pv] b h = .ok (instV ps t) h
  | 0, t, b, _, d => by cases t <;> simp [Tm.dep] at d
  | m + 1, t, b, bl, d => by
    apply sat_eq_of
    show (mkFn true 3 (d__law_put (f__law_put m)) _ b h).sat _
    rw [sat_fn]
    unfold d__law_put
    cases t with
    | bd n =>
      rw [enc_bd]
      simp_arith [hp n (bl n (.refl _))]
      rw [popS_same rfl]
      exact ⟨by rw [instV], rfl⟩
    | nm x k =>
      rw [enc_nm]
      simp_arith [s_nb]
      rw [popS_same rfl]
      exact ⟨rfl, rfl⟩
    | mk f ts =>
      have dm : Tm.deps ts ≤ m := by simp only [Tm.dep] at d; omega
      rw [enc_mk]
      simp_arith [s_mb, s_mn]
      refine compL_typ _ _ _ ts Tm.enc (fun _ => true) (fun t => instV ps t) (fun t ht => ?_) ?_
      · refine ⟨_, rfl, ⟨rfl, rfl⟩, fun _ => ?_⟩
        simp_arith [eq_sat (put_eq hp m t _ (bl.part ht) (deps_le.mp dm _ ht))]
      · rw [filter_yes]
        try simp_arith []
        rw [popS_same rfl]
        refine ⟨?_, rfl⟩
        rw [instV, instVs_map]
theorem instV_low {ps : List PV} (lo : ∀ p ∈ ps, p.low 0 = true) : ∀ t : Tm, (instV ps t).low 0 = true := by
  intro t
  induction t using Tm.ind with
  | nm x k => rfl
  | bd n =>
    rw [instV]
    by_cases z : n < ps.length
    · rw [List.getD, List.getElem?_eq_getElem z]; exact lo _ (List.getElem_mem z)
    · rw [List.getD, List.getElem?_eq_none (by omega)]; rfl
  | mk f ts ih =>
    rw [instV]
    have : PV.lowL 0 (instVs ps ts) = true := by
      rw [instVs_map]
      exact PV.lowL_iff.mpr fun x hx => by
        obtain ⟨t, ht, rfl⟩ := List.mem_map.mp hx
        exact ih t ht
    simp [PV.low, PV.lowL, this]
theorem instVs_low {ps : List PV} (lo : ∀ p ∈ ps, p.low 0 = true) (n : Nat) (ts : List Tm) : PV.lowL n (ts.map (instV ps)) = true := low_map n ts _ fun t => PV.low_mono (Nat.zero_le _) _ (instV_low lo t)
theorem filled_eq {ps : List PV} (lo : ∀ p ∈ ps, p.low 0 = true) : ∀ (m : Nat) (t : Tm) (b : Nat) (h : AH), Bel ps.length t → t.dep ≤ m → t.size ≤ 1000 → f_filled m [t.enc, .tup ps] b h = .ok (instV ps t) h
  | 0, t, b, h, _, d, _ => by cases t <;> simp [Tm.dep] at d
  | m + 1, t, b, h, bl, d, z => by
    apply sat_eq_of
    show (mkFn true 4 (d_filled (f_filled m)) _ b h).sat _
    rw [sat_fn]
    unfold d_filled
    cases t with
    | bd n =>
      have hn := bl n (.refl _)
      rw [enc_bd]
      simp_arith [atI_nat, List.getElem?_eq_getElem hn]
      rw [popS_same rfl]
      refine ⟨?_, rfl⟩
      rw [instV, List.getD, List.getElem?_eq_getElem hn]; rfl
    | nm x k =>
      rw [enc_nm]
      simp_arith [s_nb]
      rw [popS_same rfl]
      exact ⟨rfl, rfl⟩
    | mk f ts =>
      have dm : Tm.deps ts ≤ m := by simp only [Tm.dep] at d; omega
      have zl := len_sizes ts
      simp only [Tm.size] at z
      rw [enc_mk]
      simp_arith [s_mb, s_mn]
      refine forL_sat _ _ _ (fun i e h' => ∃ e3, e = [some (.tup [.str "made", .str f, .tup (ts.map Tm.enc)]), some (.tup ps), some (.ref h.length), e3] ∧ h' = h ++ [.lst ((ts.take i).map (instV ps))]) ?turn ?fin _ 0 _ _ (Nat.add_zero _) ⟨none, rfl, rfl⟩
      case turn =>
        rintro i e hh hi ⟨e3, rfl, rfl⟩
        have hi' : i < ts.length := by
          have z : i < (ts.map Tm.enc).length := hi
          rwa [List.length_map] at z
        refine ⟨ts[i].enc, _, by show (ts.map Tm.enc)[i]? = _; rw [List.getElem?_map, List.getElem?_eq_getElem hi']; rfl, rfl, ?_⟩
        have hm := List.getElem_mem hi'
        have si : ts[i].size ≤ Tm.sizes ts := by
          have := sizes_cat (ts.take i) (ts.drop i)
          rw [List.take_append_drop, List.drop_eq_getElem_cons hi'] at this
          simp only [Tm.sizes] at this
          omega
        have ta : ts.take (i + 1) = ts.take i ++ [ts[i]] := by rw [List.take_succ, List.getElem?_eq_getElem hi']; rfl
        have el : (h ++ [AO.lst ((ts.take i).map (instV ps))])[h.length]? = some (.lst ((ts.take i).map (instV ps))) := by
          rw [List.getElem?_append_right (Nat.le_refl _)]; simp
        simp_arith [eq_sat (filled_eq lo m ts[i] _ _ (bl.part hm) (deps_le.mp dm _ hm) (by omega))]
        refine ⟨isL_ref el, ?_⟩
        rw [append_ref el]
        refine ⟨⟨by simp; omega, okW_pure (instV_low lo _)⟩, _, rfl, ?_⟩
        rw [List.set_append_right _ _ (Nat.le_refl _), ta, List.map_append]
        simp
      case fin =>
        rintro e hh ⟨e3, rfl, rfl⟩
        have el : (h ++ [AO.lst ((ts.take (itS (ts.map Tm.enc)).n).map (instV ps))])[h.length]? = some (.lst ((ts.take (itS (ts.map Tm.enc)).n).map (instV ps))) := by
          rw [List.getElem?_append_right (Nat.le_refl _)]; simp
        refine ⟨rfl, ?_⟩
        simp_arith [seqOf_ref el]
        rw [popS_low (by
          have := instVs_low lo h.length (ts.take (itS (ts.map Tm.enc)).n)
          rw [List.map_take] at this
          simp [PV.low, PV.lowL, this]) (by simp)]
        refine ⟨?_, by simp⟩
        rw [show (itS (ts.map Tm.enc)).n = ts.length from List.length_map .., List.take_length, instV, instVs_map]
end K72
end
section
set_option Elab.async false
set_option linter.all false
set_option maxRecDepth 100000
namespace K72
open PySem Mn
local macro_rules
  | `(tactic| simp_arith [$ls,*]) => `(tactic| simp only [sat_ok, sat_bad, sat_bind, sat_C, sat_nil, sat_cons, sat_var, sat_tup, sat_lst, sat_mkL, sat_op2, sat_opL, sat_call, sat_att, sat_meth, sat_tv, sat_and, sat_or, sat_not, sat_yes, sat_andV, sat_orV, sat_notV, sat_ifE, sat_seq, sat_dnx, sat_ret, sat_retN, sat_exp, sat_set, sat_if, sat_never, sat_unp, sat_lset, sat_dput, sat_fset, sat_aug, sat_for, sat_comp, sat_fI, sat_sub, sat_div, sat_mod, sat_addI, sat_mulI, sat_addL, sat_addT, sat_addS, sat_ix, sat_in, sat_is, sat_isnot, sat_len, sat_pow, sat_bm, sat_sl, sat_part, sat_nopart, sat_eq, sat_ne, sat_seqI, seqI_lst, seqI_tup, ix_tup, ix_lst, ix_scr, atI_0, atI_1, atI_2, atI_3, atI_4, dat_str, dat_int, dat_non, dat_nil, eq_str, eq_int, PV.isN, fnE, List.map_cons, List.map_nil, List.length_cons, List.length_nil, Nat.reduceAdd, Nat.reduceSub, List.reduceReplicate, List.cons_append, List.nil_append, List.append_nil, List.getElem?_cons_succ, List.getElem?_cons_zero, List.set_cons_succ, List.set_cons_zero, Option.some.injEq, PV.bl.injEq, PV.int.injEq, exists_eq_left', exists_eq_left, decide_eq_true_eq, Bool.not_eq_true', Nat.reduceLeDiff, true_and, and_true, Bool.false_eq_true, if_true, if_false, gt_iff_lt, ge_iff_le, reduceCtorEq, false_and, and_false, exists_false, Bool.not_true, Bool.not_false, sat_rng1, sat_rng2, sat_zip, sat_zipL, sat_listOf, sat_tupOf, sat_all, sat_any, sat_isi, sat_make, sat_dic0, seqOf_lst, seqOf_tup, lstOf_lst, lenP_lst, lenP_tup, srcP_lst, srcP_tup, tyP_str, tyP_tup, tyP_lst, tyP_int, tyP_non, Option.bind_some, cut_to, cut_from, cut_toT, cut_fromT, wipeE, $ls,*])
/-! ## what stands for bound ones -/
abbrev Fd := List (Option Tm)
def optE : Option Tm → PV
  | none => .non
  | some t => t.enc
def Agree (F : Fd) (σ : Nat → Tm) : Prop := ∀ (n : Nat) (t : Tm), F[n]? = some (some t) → σ n = t
def dom (F : Fd) (n : Nat) : Prop := ∃ t : Tm, F[n]? = some (some t)
def Ext (F F' : Fd) : Prop := ∀ (n : Nat) (t : Tm), F[n]? = some (some t) → F'[n]? = some (some t)
theorem optE_low (o : Option Tm) : (optE o).low 0 = true := by cases o with
  | none => rfl
  | some t => exact low_dat _ (enc_dat t) _
theorem optE_dat (o : Option Tm) (d : ∀ t, o = some t → t.dep ≤ 50) {h : AH} : datOf h (optE o) = some (optE o) := by cases o with
  | none => rfl
  | some t => exact dat_tm (d t rfl)
theorem isN_non : PV.isN .non = true := rfl
theorem isN_enc (t : Tm) : PV.isN t.enc = false := by cases t <;> rfl
def ruleV (ks : List Str) (l r : Tm) : PV := .tup [.tup (ks.map .str), l.enc, r.enc]
theorem pk_closed {ws : List Told} {t : Tm} {k : Str} (p : Pk ws [] t k) : notBd t := by
  cases p with
  | bd e => cases e
  | nm => trivial
  | mk => trivial
/-- one step of the look -/
def fitF (F : Fd) : Tm → Tm → Bool × Fd
  | .bd n, t => match F[n]? with
    | some none => (true, F.set n (some t))
    | some (some s) => (decide (s = t), F)
    | none => (false, F)
  | .nm x k, t => (decide (Tm.nm x k = t), F)
  | .mk f _, t => match t with
    | .mk g _ => (decide (g = f), F)
    | _ => (false, F)
section
variable {ws : List Told} {ks : List Str}
theorem set_map {F : Fd} {n : Nat} (o : Option Tm) : (F.map optE).set n (optE o) = (F.set n o).map optE := by rw [List.map_set]
theorem fits_at_ok (W : WsOk ws) {h : AH} {r : Nat} {F : Fd} {p t l rr : Tm} {k : Str} (e : h[r]? = some (.lst (F.map optE))) (hl : F.length = ks.length) (hF : ∀ s, some s ∈ F → s.dep ≤ 50) (pp : Pk ws ks p k) (pt : Pk ws [] t k) (dp : p.dep ≤ 50) (dt : t.dep ≤ 50) (b : Nat) :
    f_fits_at [gV ws, ruleV ks l rr, .ref r, p.enc, t.enc] b h = .ok (.bl (fitF F p t).1) (h.set r (.lst ((fitF F p t).2.map optE))) := by
  apply sat_eq_of
  have hr : r < h.length := (List.getElem?_eq_some_iff.mp e).1
  have same : h.set r (.lst (F.map optE)) = h := by
    apply List.ext_getElem?
    intro i
    rw [List.getElem?_set]
    split
    · rename_i z; subst z; first | rw [if_pos hr, e] | rw [e]
    · rfl
  unfold f_fits_at
  rw [sat_fn]
  unfold d_fits_at
  cases pp with
  | nm =>
    rename_i x
    rw [enc_nm]
    simp_arith [s_nb]
    have q := dat_tm (h := h) (t := .nm x k) dp
    rw [enc_nm] at q
    refine ⟨_, q, _, dat_tm dt, ?_⟩
    rw [popS_same rfl]
    refine ⟨?_, by simp [fitF, same]⟩
    have := eq_enc (.nm x k) t
    rw [enc_nm] at this
    simp only [fitF]
    congr 1
    rw [Bool.eq_iff_iff, decide_eq_true_eq]; exact this
  | mk hs hlen ha =>
    rename_i f tk ps
    rw [enc_mk]
    cases t with
    | nm x k =>
      rw [enc_nm]
      simp_arith [s_mb, s_mn, s_nm]
      rw [popS_same rfl]
      exact ⟨rfl, by simp [fitF, same]⟩
    | bd n => exact (pk_closed pt).elim
    | mk g qs =>
      rw [enc_mk]
      simp_arith [s_mb, s_mn]
      rw [popS_same rfl]
      exact ⟨rfl, by simp [fitF, same]⟩
  | bd hn =>
    rename_i n
    have hn' : n < F.length := by rw [hl]; exact (List.getElem?_eq_some_iff.mp hn).1
    rw [enc_bd]
    have ix : ixP h (.ref r) (.int (n : Nat)) = some (optE F[n]) := by
      rw [ix_ref e, atI_nat, List.getElem?_map, List.getElem?_eq_getElem hn']; rfl
    have gF : F[n]? = some F[n] := List.getElem?_eq_getElem hn'
    have kn : (ks.map PV.str)[n]? = some (.str k) := by rw [List.getElem?_map, hn]; rfl
    simp_arith [ix, -PV.isN]
    cases eF : F[n] with
    | some s =>
      have ds : s.dep ≤ 50 := hF s (by rw [← eF]; exact List.getElem_mem hn')
      have dd := dat_tm (h := h) ds
      simp_arith [-PV.isN, optE, isN_enc, dd, dat_tm dt]
      rw [popS_same rfl]
      refine ⟨?_, ?_⟩
      · simp only [fitF, gF, eF]
        congr 1
        rw [Bool.eq_iff_iff, decide_eq_true_eq]; exact eq_enc s t
      · simp only [fitF, gF, eF, same]
    | none =>
      simp_arith [-PV.isN, isN_non, optE, eq_sat (kind_of_eq W pt (pk_closed pt) _), ruleV, atI_nat, kn]
      have es := lset_ref (b := h.length) (v := t.enc) e (okW_pure (low_dat _ (enc_dat t) 0)) n (by simpa using hn')
      refine ⟨_, es, ?_⟩
      have sm : (F.map optE).set n t.enc = (F.set n (some t)).map optE := by rw [List.map_set]; rfl
      rw [sm]
      have e2 : (h.set r (.lst ((F.set n (some t)).map optE)))[r]? = some (.lst ((F.set n (some t)).map optE)) := List.getElem?_set_self hr
      refine ⟨t.enc, by rw [ix_ref e2, atI_nat, List.getElem?_map, List.getElem?_set_self hn']; rfl, _, dat_tm dt, _, dat_tm dt, ?_⟩
      rw [popS_same (by simp)]
      refine ⟨?_, ?_⟩
      · simp only [fitF, gF, eF]
        congr 1
        exact eqv_self t
      · simp only [fitF, gF, eF]
end
end K72
end
section
set_option Elab.async false
set_option linter.all false
set_option maxRecDepth 100000
namespace K72
open PySem Mn
local macro_rules
  | `(tactic| simp_arith [$ls,*]) => `(tactic| simp only [sat_ok, sat_bad, sat_bind, sat_C, sat_nil, sat_cons, sat_var, sat_tup, sat_lst, sat_mkL, sat_op2, sat_opL, sat_call, sat_att, sat_meth, sat_tv, sat_and, sat_or, sat_not, sat_yes, sat_andV, sat_orV, sat_notV, sat_ifE, sat_seq, sat_dnx, sat_ret, sat_retN, sat_exp, sat_set, sat_if, sat_never, sat_unp, sat_lset, sat_dput, sat_fset, sat_aug, sat_for, sat_comp, sat_fI, sat_sub, sat_div, sat_mod, sat_addI, sat_mulI, sat_addL, sat_addT, sat_addS, sat_ix, sat_in, sat_is, sat_isnot, sat_len, sat_pow, sat_bm, sat_sl, sat_part, sat_nopart, sat_eq, sat_ne, sat_seqI, seqI_lst, seqI_tup, ix_tup, ix_lst, ix_scr, atI_0, atI_1, atI_2, atI_3, atI_4, dat_str, dat_int, dat_non, dat_nil, eq_str, eq_int, PV.isN, fnE, List.map_cons, List.map_nil, List.length_cons, List.length_nil, Nat.reduceAdd, Nat.reduceSub, List.reduceReplicate, List.cons_append, List.nil_append, List.append_nil, List.getElem?_cons_succ, List.getElem?_cons_zero, List.set_cons_succ, List.set_cons_zero, Option.some.injEq, PV.bl.injEq, PV.int.injEq, exists_eq_left', exists_eq_left, decide_eq_true_eq, Bool.not_eq_true', Nat.reduceLeDiff, true_and, and_true, Bool.false_eq_true, if_true, if_false, gt_iff_lt, ge_iff_le, reduceCtorEq, false_and, and_false, exists_false, Bool.not_true, Bool.not_false, sat_rng1, sat_rng2, sat_zip, sat_zipL, sat_listOf, sat_tupOf, sat_all, sat_any, sat_isi, sat_make, sat_dic0, seqOf_lst, seqOf_tup, lstOf_lst, lenP_lst, lenP_tup, srcP_lst, srcP_tup, tyP_str, tyP_tup, tyP_lst, tyP_int, tyP_non, Option.bind_some, cut_to, cut_from, cut_toT, cut_fromT, wipeE, $ls,*])
section
variable {ws : List Told} {ks : List Str} {l t0 : Tm}
structure MInv (ws : List Told) (ks : List Str) (l t0 : Tm) (F : Fd) (Q : List (Tm × Tm)) : Prop where
  eqv : ∀ σ, inst σ l = t0 ↔ Agree F σ ∧ ∀ q ∈ Q, inst σ q.1 = q.2
  typ : ∀ q ∈ Q, ∃ k, Pk ws ks q.1 k ∧ Pk ws [] q.2 k
  cov : ∀ n, Sub (.bd n) l ↔ dom F n ∨ ∃ q ∈ Q, Sub (.bd n) q.1
  subs : ∀ q ∈ Q, Sub q.1 l ∧ Sub q.2 t0
  len : F.length = ks.length
  vals : ∀ s, some s ∈ F → Sub s t0
def more : Tm → Tm → List (Tm × Tm)
  | .mk _ ps, .mk _ qs => ps.zip qs
  | _, _ => []
theorem insts_zip {σ : Nat → Tm} : ∀ {ps qs : List Tm}, ps.length = qs.length → ((∀ q ∈ ps.zip qs, inst σ q.1 = q.2) ↔ insts σ ps = qs)
  | [], [], _ => by simp [insts]
  | [], _ :: _, h => by cases h
  | _ :: _, [], h => by cases h
  | p :: ps, q :: qs, h => by
    have ih := insts_zip (σ := σ) (ps := ps) (qs := qs) (by simpa using h)
    simp only [List.zip_cons_cons, List.mem_cons, forall_eq_or_imp, insts, List.cons.injEq, ih]
theorem MInv.fail {F : Fd} {Q : List (Tm × Tm)} {p t : Tm} (I : MInv ws ks l t0 F (Q ++ [(p, t)])) (c : (fitF F p t).1 = false) : ∀ σ, inst σ l ≠ t0 := by
  intro σ e
  obtain ⟨ag, all⟩ := (I.eqv σ).mp e
  have pt := all (p, t) (by simp)
  simp only at pt
  obtain ⟨k, pp, pk⟩ := I.typ (p, t) (by simp)
  cases p with
  | nm x k =>
    rw [inst] at pt
    simp [fitF, pt] at c
  | mk f ps =>
    rw [inst] at pt
    subst pt
    simp [fitF] at c
  | bd n =>
    rw [inst] at pt
    have hn : n < F.length := by
      rw [I.len]
      cases pp with
      | bd e => exact (List.getElem?_eq_some_iff.mp e).1
    simp only [fitF] at c
    cases eF : F[n]? with
    | none => rw [List.getElem?_eq_getElem hn] at eF; cases eF
    | some o =>
      rw [eF] at c
      cases o with
      | none => cases c
      | some s =>
        have := ag n s eF
        simp only [decide_eq_false_iff_not] at c
        exact c (this.symm.trans pt)
theorem agree_set {F : Fd} {n : Nat} {t : Tm} {σ : Nat → Tm} (e : F[n]? = some none) : Agree (F.set n (some t)) σ ↔ Agree F σ ∧ σ n = t := by
  have hn : n < F.length := (List.getElem?_eq_some_iff.mp e).1
  constructor
  · intro a
    refine ⟨fun m s h => ?_, a n t (List.getElem?_set_self hn)⟩
    by_cases z : n = m
    · subst z; rw [e] at h; cases h
    · exact a m s (by rw [List.getElem?_set_ne z]; exact h)
  · rintro ⟨a, b⟩ m s h
    by_cases z : n = m
    · subst z
      rw [List.getElem?_set_self hn] at h
      cases h
      exact b
    · rw [List.getElem?_set_ne z] at h
      exact a m s h
theorem dom_set {F : Fd} {n : Nat} {t : Tm} (e : F[n]? = some none) (m : Nat) : dom (F.set n (some t)) m ↔ dom F m ∨ m = n := by
  have hn : n < F.length := (List.getElem?_eq_some_iff.mp e).1
  unfold dom
  by_cases z : n = m
  · subst z
    rw [List.getElem?_set_self hn]
    simp
  · rw [List.getElem?_set_ne z]
    constructor
    · exact fun h => .inl h
    · rintro (h | h)
      · exact h
      · exact absurd h.symm z
theorem MInv.go {F : Fd} {Q : List (Tm × Tm)} {p t : Tm} (W : WsOk ws) (I : MInv ws ks l t0 F (Q ++ [(p, t)])) (c : (fitF F p t).1 = true) : MInv ws ks l t0 (fitF F p t).2 (Q ++ more p t) := by
  obtain ⟨k, pp, pk⟩ := I.typ (p, t) (by simp)
  obtain ⟨s1, s2⟩ := I.subs (p, t) (by simp)
  have ev := I.eqv
  have cv := I.cov
  cases p with
  | nm x k =>
    simp only [fitF, decide_eq_true_eq] at c
    simp only [fitF, more, List.append_nil]
    refine ⟨fun σ => ?_, fun q hq => I.typ q (List.mem_append_left _ hq), fun n => ?_, fun q hq => I.subs q (List.mem_append_left _ hq), I.len, I.vals⟩
    · rw [ev σ]
      refine and_congr_right fun _ => ⟨fun h q hq => h q (List.mem_append_left _ hq), fun h q hq => ?_⟩
      rcases List.mem_append.mp hq with hq | hq
      · exact h q hq
      · rw [List.mem_singleton.mp hq, inst]; exact c
    · rw [cv n]
      refine or_congr_right ⟨fun ⟨q, hq, s⟩ => ?_, fun ⟨q, hq, s⟩ => ⟨q, List.mem_append_left _ hq, s⟩⟩
      rcases List.mem_append.mp hq with hq | hq
      · exact ⟨q, hq, s⟩
      · rw [List.mem_singleton.mp hq] at s; cases s
  | mk f ps =>
    cases t with
    | nm x k => simp [fitF] at c
    | bd n => simp [fitF] at c
    | mk g qs =>
      simp only [fitF, decide_eq_true_eq] at c
      subst c
      simp only [fitF, more]
      cases pp with
      | mk hs hl ha =>
        rename_i tk
        cases pk with
        | mk hs2 hl2 ha2 =>
          have := sig_unique W hs hs2 rfl
          cases this
          have hlen : ps.length = qs.length := by rw [hl, hl2]
          refine ⟨fun σ => ?_, fun q hq => ?_, fun n => ?_, fun q hq => ?_, I.len, I.vals⟩
          · rw [ev σ]
            refine and_congr_right fun _ => ⟨fun h q hq => ?_, fun h q hq => ?_⟩
            · rcases List.mem_append.mp hq with hq | hq
              · exact h q (List.mem_append_left _ hq)
              · have := h _ (List.mem_append_right _ (List.mem_singleton.mpr rfl))
                rw [inst] at this
                injection this with _ e
                exact (insts_zip hlen).mpr e q hq
            · rcases List.mem_append.mp hq with hq | hq
              · exact h q (List.mem_append_left _ hq)
              · rw [List.mem_singleton.mp hq, inst, (insts_zip hlen).mp fun q hq => h q (List.mem_append_right _ hq)]
          · rcases List.mem_append.mp hq with hq | hq
            · exact I.typ q (List.mem_append_left _ hq)
            · obtain ⟨i, e⟩ := List.mem_iff_getElem?.mp hq
              rw [List.getElem?_zip_eq_some] at e
              obtain ⟨e1, e2⟩ := e
              have hi : i < tk.length := by rw [← hl]; exact (List.getElem?_eq_some_iff.mp e1).1
              exact ⟨tk[i], ha i _ _ e1 (List.getElem?_eq_getElem hi), ha2 i _ _ e2 (List.getElem?_eq_getElem hi)⟩
          · rw [cv n]
            refine or_congr_right ⟨fun ⟨q, hq, s⟩ => ?_, fun ⟨q, hq, s⟩ => ?_⟩
            · rcases List.mem_append.mp hq with hq | hq
              · exact ⟨q, List.mem_append_left _ hq, s⟩
              · rw [List.mem_singleton.mp hq] at s
                cases s with
                | part hp s =>
                  obtain ⟨i, e⟩ := List.mem_iff_getElem?.mp hp
                  have hi : i < qs.length := by rw [← hlen]; exact (List.getElem?_eq_some_iff.mp e).1
                  refine ⟨(_, qs[i]), List.mem_append_right _ (List.mem_iff_getElem?.mpr ⟨i, List.getElem?_zip_eq_some.mpr ⟨e, List.getElem?_eq_getElem hi⟩⟩), s⟩
            · rcases List.mem_append.mp hq with hq | hq
              · exact ⟨q, List.mem_append_left _ hq, s⟩
              · exact ⟨_, List.mem_append_right _ (List.mem_singleton.mpr rfl), .part (List.of_mem_zip hq).1 s⟩
          · rcases List.mem_append.mp hq with hq | hq
            · exact I.subs q (List.mem_append_left _ hq)
            · exact ⟨(Sub.part (List.of_mem_zip hq).1 (.refl _)).trans s1, (Sub.part (List.of_mem_zip hq).2 (.refl _)).trans s2⟩
  | bd n =>
    have hn : n < F.length := by
      rw [I.len]
      cases pp with
      | bd e => exact (List.getElem?_eq_some_iff.mp e).1
    have mo : more (.bd n) t = [] := by cases t <;> rfl
    rw [mo, List.append_nil]
    cases eF : F[n]? with
    | none => rw [List.getElem?_eq_getElem hn] at eF; cases eF
    | some o =>
      cases o with
      | some s =>
        simp only [fitF, eF, decide_eq_true_eq] at c
        subst c
        simp only [fitF, eF]
        refine ⟨fun σ => ?_, fun q hq => I.typ q (List.mem_append_left _ hq), fun m => ?_, fun q hq => I.subs q (List.mem_append_left _ hq), I.len, I.vals⟩
        · rw [ev σ]
          refine and_congr_right fun ag => ⟨fun h q hq => h q (List.mem_append_left _ hq), fun h q hq => ?_⟩
          rcases List.mem_append.mp hq with hq | hq
          · exact h q hq
          · rw [List.mem_singleton.mp hq, inst]; exact ag n s eF
        · rw [cv m]
          refine ⟨fun h => ?_, fun h => h.imp id fun ⟨q, hq, s⟩ => ⟨q, List.mem_append_left _ hq, s⟩⟩
          rcases h with h | ⟨q, hq, sb⟩
          · exact .inl h
          · rcases List.mem_append.mp hq with hq | hq
            · exact .inr ⟨q, hq, sb⟩
            · rw [List.mem_singleton.mp hq] at sb
              cases sb
              exact .inl ⟨s, eF⟩
      | none =>
        simp only [fitF, eF]
        refine ⟨fun σ => ?_, fun q hq => I.typ q (List.mem_append_left _ hq), fun m => ?_, fun q hq => I.subs q (List.mem_append_left _ hq), by simp [I.len], fun s hs => ?_⟩
        · rw [ev σ, agree_set eF]
          constructor
          · rintro ⟨ag, h⟩
            exact ⟨⟨ag, h (_, t) (List.mem_append_right _ (List.mem_singleton.mpr rfl))⟩, fun q hq => h q (List.mem_append_left _ hq)⟩
          · rintro ⟨⟨ag, e⟩, h⟩
            refine ⟨ag, fun q hq => ?_⟩
            rcases List.mem_append.mp hq with hq | hq
            · exact h q hq
            · rw [List.mem_singleton.mp hq, inst]; exact e
        · rw [cv m, dom_set eF]
          constructor
          · rintro (h | ⟨q, hq, sb⟩)
            · exact .inl (.inl h)
            · rcases List.mem_append.mp hq with hq | hq
              · exact .inr ⟨q, hq, sb⟩
              · rw [List.mem_singleton.mp hq] at sb
                cases sb
                exact .inl (.inr rfl)
          · rintro ((h | rfl) | ⟨q, hq, sb⟩)
            · exact .inl h
            · exact .inr ⟨_, List.mem_append_right _ (List.mem_singleton.mpr rfl), .refl _⟩
            · exact .inr ⟨q, List.mem_append_left _ hq, sb⟩
        · rcases List.mem_or_eq_of_mem_set hs with h | h
          · exact I.vals s h
          · cases h; exact s2
end
end K72
end
section
set_option Elab.async false
set_option linter.all false
set_option maxRecDepth 100000
namespace K72
open PySem Mn
local macro_rules
  | `(tactic| simp_arith [$ls,*]) => `(tactic| simp only [sat_ok, sat_bad, sat_bind, sat_C, sat_nil, sat_cons, sat_var, sat_tup, sat_lst, sat_mkL, sat_op2, sat_opL, sat_call, sat_att, sat_meth, sat_tv, sat_and, sat_or, sat_not, sat_yes, sat_andV, sat_orV, sat_notV, sat_ifE, sat_seq, sat_dnx, sat_ret, sat_retN, sat_exp, sat_set, sat_if, sat_never, sat_unp, sat_lset, sat_dput, sat_fset, sat_aug, sat_for, sat_comp, sat_fI, sat_sub, sat_div, sat_mod, sat_addI, sat_mulI, sat_addL, sat_addT, sat_addS, sat_ix, sat_in, sat_is, sat_isnot, sat_len, sat_pow, sat_bm, sat_sl, sat_part, sat_nopart, sat_eq, sat_ne, sat_seqI, seqI_lst, seqI_tup, ix_tup, ix_lst, ix_scr, atI_0, atI_1, atI_2, atI_3, atI_4, dat_str, dat_int, dat_non, dat_nil, eq_str, eq_int, PV.isN, fnE, List.map_cons, List.map_nil, List.length_cons, List.length_nil, Nat.reduceAdd, Nat.reduceSub, List.reduceReplicate, List.cons_append, List.nil_append, List.append_nil, List.getElem?_cons_succ, List.getElem?_cons_zero, List.set_cons_succ, List.set_cons_zero, Option.some.injEq, PV.bl.injEq, PV.int.injEq, exists_eq_left', exists_eq_left, decide_eq_true_eq, Bool.not_eq_true', Nat.reduceLeDiff, true_and, and_true, Bool.false_eq_true, if_true, if_false, gt_iff_lt, ge_iff_le, reduceCtorEq, false_and, and_false, exists_false, Bool.not_true, Bool.not_false, sat_rng1, sat_rng2, sat_zip, sat_zipL, sat_listOf, sat_tupOf, sat_all, sat_any, sat_isi, sat_make, sat_dic0, seqOf_lst, seqOf_tup, lstOf_lst, lenP_lst, lenP_tup, srcP_lst, srcP_tup, tyP_str, tyP_tup, tyP_lst, tyP_int, tyP_non, Option.bind_some, cut_to, cut_from, cut_toT, cut_fromT, wipeE, $ls,*])
theorem sat_mulN {m : Bool} {xs : List PV} {n b : Nat} {h : AH} {P : PV → AH → Prop} (hn : n ≤ 1000) (hx : xs.length ≤ 1000) : (fMul m (.lst xs) (.int (n : Nat)) b h).sat P ↔ (mkL m (List.replicate n xs).flatten h).sat P := by
  have c : (decide (-(2 ^ 63) ≤ (n : Int)) && decide ((n : Int) < 2 ^ 63) && szOk (xs.length * (n : Int).toNat)) = true := by
    rw [Bool.and_eq_true, Bool.and_eq_true, decide_eq_true_eq, decide_eq_true_eq, szOk_le]
    have : (2 : Int) ^ 63 = 9223372036854775808 := by decide
    refine ⟨⟨by omega, by omega⟩, ?_⟩
    have : xs.length * (n : Int).toNat ≤ 1000 * 1000 := Nat.mul_le_mul hx (by omega)
    omega
  show (R.sat (match lstOf h (.lst xs) with
    | some xs => if (decide (-(2 ^ 63) ≤ (n : Int)) && decide ((n : Int) < 2 ^ 63) && szOk (xs.length * (n : Int).toNat)) = true then mkL m (List.replicate (n : Int).toNat xs).flatten h else .bad
    | none => .bad) P) ↔ _
  rw [lstOf_lst]
  simp only
  rw [if_pos c, Int.toNat_natCast]
theorem rep_flat (n : Nat) : (List.replicate n [PV.non]).flatten = (List.replicate n (none : Option Tm)).map optE := by
  induction n with
  | zero => rfl
  | succ n ih => rw [List.replicate_succ, List.flatten_cons, ih]; rfl
def prE (q : Tm × Tm) : PV := .tup [q.1.enc, q.2.enc]
theorem prE_dat (Q : List (Tm × Tm)) (d : ∀ q ∈ Q, q.1.dep ≤ 30 ∧ q.2.dep ≤ 30) : PV.dats (Q.map prE) = true ∧ PyData.depthAll (PV.toDs (Q.map prE)) ≤ 61 := by
  induction Q with
  | nil => exact ⟨rfl, by decide⟩
  | cons q Q ih =>
    obtain ⟨a, b⟩ := ih fun q hq => d q (List.mem_cons_of_mem _ hq)
    obtain ⟨d1, d2⟩ := d q List.mem_cons_self
    have e1 := enc_depth q.1
    have e2 := enc_depth q.2
    refine ⟨?_, ?_⟩
    · simp only [List.map_cons, PV.dats, a, prE, PV.dat, enc_dat, Bool.and_self]
    · simp only [List.map_cons, PV.toDs, PyData.depthAll, prE, PV.toD, PyData.depth]
      omega
theorem dat_prE {h : AH} {Q : List (Tm × Tm)} (d : ∀ q ∈ Q, q.1.dep ≤ 30 ∧ q.2.dep ≤ 30) : datOf h (.lst (Q.map prE)) = some (.lst (Q.map prE)) := by
  unfold datOf
  rw [if_pos (show PV.dat (.lst _) = true from (prE_dat Q d).1), if_pos (by rw [Nat.ble_eq]; have := (prE_dat Q d).2; simp only [PV.toD, PyData.depth]; omega)]
theorem prE_low (n : Nat) (Q : List (Tm × Tm)) : PV.lowL n (Q.map prE) = true := low_map n Q prE fun q => by
  simp [prE, PV.low, PV.lowL, low_dat _ (enc_dat q.1), low_dat _ (enc_dat q.2)]
theorem optE_lows (n : Nat) (F : Fd) : PV.lowL n (F.map optE) = true := low_map n F optE fun o => PV.low_mono (Nat.zero_le _) _ (optE_low o)
theorem sub_dep {u t : Tm} (s : Sub u t) : u.dep ≤ t.dep := by
  induction s with
  | refl => exact Nat.le_refl _
  | @part p f ps hp _ ih =>
    have := deps_le.mp (Nat.le_refl (Tm.deps ps)) _ hp
    simp only [Tm.dep]; omega
theorem more_sizes (p t : Tm) : Tm.sizes ((more p t).map (·.1)) + 1 ≤ p.size := by
  cases p with
  | nm => simp [more, Tm.sizes, Tm.size]
  | bd => simp [more, Tm.sizes, Tm.size]
  | mk f ps =>
    cases t with
    | nm => simp [more, Tm.sizes, Tm.size]
    | bd => simp [more, Tm.sizes, Tm.size]
    | mk g qs =>
      simp only [more, Tm.size]
      have : ∀ ps qs : List Tm, Tm.sizes ((ps.zip qs).map (·.1)) ≤ Tm.sizes ps := by
        intro ps
        induction ps with
        | nil => intro qs; simp [Tm.sizes]
        | cons p ps ih =>
          intro qs
          cases qs with
          | nil => simp [Tm.sizes]
          | cons q qs => simp only [List.zip_cons_cons, List.map_cons, Tm.sizes]; have := ih qs; omega
      have := this ps qs
      omega
section
variable {ws : List Told} {ks : List Str} {l t0 : Tm}
def FitRes (ws : List Told) (ks : List Str) (l t0 : Tm) (v : PV) : Prop := (v = .non ∧ ∀ σ, inst σ l ≠ t0) ∨ ∃ F, v = .tup (F.map optE) ∧ MInv ws ks l t0 F []
theorem MInv.start {k : Str} (pl : Pk ws ks l k) (pt : Pk ws [] t0 k) : MInv ws ks l t0 (List.replicate ks.length none) [(l, t0)] where
  eqv := fun σ => by
    simp only [List.mem_singleton, forall_eq]
    exact ⟨fun h => ⟨fun n t e => by rw [List.getElem?_replicate] at e; split at e <;> simp at e, h⟩, fun h => h.2⟩
  typ := fun q hq => by rw [List.mem_singleton.mp hq]; exact ⟨k, pl, pt⟩
  cov := fun n => by
    simp only [List.mem_singleton, exists_eq_left]
    refine ⟨.inr, fun h => h.elim (fun ⟨t, e⟩ => ?_) id⟩
    rw [List.getElem?_replicate] at e; split at e <;> simp at e
  subs := fun q hq => by rw [List.mem_singleton.mp hq]; exact ⟨.refl _, .refl _⟩
  len := by simp
  vals := fun s hs => by
    have := List.eq_of_mem_replicate hs
    cases this
theorem pop_ref {n b : Nat} {h : AH} {xs : List PV} {y : PV} {P : PV → AH → Prop} (e : h[n]? = some (.lst (xs ++ [y]))) : (fPop (.ref n) [] b h).sat P ↔ P y (h.set n (.lst xs)) := by
  unfold fPop
  simp only [e]
  have : (xs ++ [y])[(xs ++ [y]).length - 1]? = some y := by simp
  rw [this]
  simp only [List.dropLast_concat]
  exact Iff.rfl
theorem fitting_ok (W : WsOk ws) {rr : Tm} {k : Str} (pl : Pk ws ks l k) (pt : Pk ws [] t0 k) (hk : ks.length ≤ 20) (dl : l.dep ≤ 30) (dt : t0.dep ≤ 30) (zl : l.size ≤ 300) (b : Nat) (h : AH) :
    (f_fitting [gV ws, ruleV ks l rr, t0.enc] b h).sat fun v h' => FitRes ws ks l t0 v ∧ h' = h := by
  unfold f_fitting
  rw [sat_fn]
  unfold d_fitting
  rw [sat_seq]
  simp_arith [-sat_seq, ruleV]
  rw [List.length_map, sat_mulN (by omega) (by decide), rep_flat, sat_mkL]
  simp only [if_true]
  rw [sat_seq]
  try simp_arith [-sat_seq, ruleV]
  rw [sat_seq]
  try simp_arith [-sat_seq]
  have e0 : (h ++ [AO.lst ((List.replicate ks.length (none : Option Tm)).map optE)]) ++ [AO.lst [PV.tup [l.enc, t0.enc]]] = h ++ [.lst ((List.replicate ks.length (none : Option Tm)).map optE), .lst ([(l, t0)].map prE)] := by simp [prE]
  have l0 : (h ++ [AO.lst ((List.replicate ks.length (none : Option Tm)).map optE)]).length = h.length + 1 := by simp
  rw [e0, l0]
  refine while_sat _ _ (fun k e h' => ∃ (F : Fd) (Q : List (Tm × Tm)) (e5 e6 : Option PV), MInv ws ks l t0 F Q ∧ Tm.sizes (Q.map (·.1)) ≤ k ∧ k ≤ l.size ∧ e = [some (gV ws), some (.tup [.tup (ks.map .str), l.enc, rr.enc]), some t0.enc, some (.ref h.length), some (.ref (h.length + 1)), e5, e6] ∧ h' = h ++ [.lst (F.map optE), .lst (Q.map prE)]) ?turn 400 l.size _ _ (by omega) ⟨_, _, none, none, MInv.start pl pt, by simp [Tm.sizes], Nat.le_refl _, rfl, rfl⟩
  rintro k' e h' ⟨F, Q, e5, e6, I, hk', hkl, rfl, rfl⟩
  have eF : (h ++ [AO.lst (F.map optE), AO.lst (Q.map prE)])[h.length]? = some (.lst (F.map optE)) := by
    rw [List.getElem?_append_right (Nat.le_refl _)]; simp
  have eQ : (h ++ [AO.lst (F.map optE), AO.lst (Q.map prE)])[h.length + 1]? = some (.lst (Q.map prE)) := by
    rw [List.getElem?_append_right (by omega)]; simp
  have dQ : ∀ q ∈ Q, q.1.dep ≤ 30 ∧ q.2.dep ≤ 30 := fun q hq => by
    obtain ⟨s1, s2⟩ := I.subs q hq
    exact ⟨Nat.le_trans (sub_dep s1) dl, Nat.le_trans (sub_dep s2) dt⟩
  simp_arith [-sat_seq, dat_refL eQ (prE_low 0 Q) (dat_prE dQ), lst_eq_nil, List.map_eq_nil_iff]
  by_cases z : Q = []
  · subst z
    simp only [decide_true, Bool.not_true, Bool.false_eq_true, if_false]
    simp_arith []
    refine ⟨_, seqOf_ref eF, ?_⟩
    rw [popS_low (by simpa [PV.low] using optE_lows h.length F) (by simp)]
    refine ⟨.inr ⟨F, rfl, I⟩, by simp⟩
  · obtain ⟨Q', q, rfl⟩ : ∃ Q' q, Q = Q' ++ [q] := ⟨Q.dropLast, Q.getLast z, (List.dropLast_concat_getLast z).symm⟩
    simp only [z, decide_false, Bool.not_false, if_true]
    obtain ⟨p, t⟩ := q
    obtain ⟨kq, pp, pk⟩ := I.typ (p, t) (by simp)
    obtain ⟨d1, d2⟩ := dQ (p, t) (by simp)
    obtain ⟨b1, b2⟩ := I.subs (p, t) (by simp)
    have ms := more_sizes p t
    have sk : Tm.sizes (Q'.map (·.1)) + p.size ≤ k' := by rw [List.map_append, sizes_cat] at hk'; simpa [Tm.sizes] using hk'
    have le2 := len_sizes (Q'.map (·.1))
    have le3 := len_sizes ((more p t).map (·.1))
    rw [List.length_map] at le2 le3
    have sp := size_things p
    refine ⟨k' - 1, by omega, ?_⟩
    rw [sat_seq]
    simp_arith [-sat_seq]
    have qm : (Q' ++ [(p, t)]).map prE = Q'.map prE ++ [prE (p, t)] := by simp
    rw [qm] at eQ ⊢
    refine ⟨isL_ref eQ, ?_⟩
    rw [pop_ref eQ, List.set_append_right _ _ (by omega)]
    rw [show h.length + 1 - h.length = 1 by omega]
    simp only [List.set_cons_succ, List.set_cons_zero]
    refine ⟨_, rfl, ?_⟩
    rw [sat_seq]
    have eF2 : (h ++ [AO.lst (F.map optE), AO.lst (Q'.map prE)])[h.length]? = some (.lst (F.map optE)) := by
      rw [List.getElem?_append_right (Nat.le_refl _)]; simp
    have fa := fits_at_ok (rr := rr) (l := l) W eF2 I.len (fun s hs => Nat.le_trans (sub_dep (I.vals s hs)) (by omega)) pp pk (by omega) (by omega) h.length
    unfold ruleV at fa
    rw [List.set_append_right _ _ (Nat.le_refl _), Nat.sub_self, List.set_cons_zero] at fa
    simp_arith [-sat_seq, eq_sat fa]
    cases c : (fitF F p t).1 with
    | false =>
      simp_arith []
      rw [popS_low rfl (by simp)]
      exact ⟨.inl ⟨rfl, I.fail c⟩, by simp⟩
    | true =>
      have I2 := I.go W c
      try simp_arith []
      cases p with
      | nm x k => 
        rw [enc_nm]
        simp_arith [s_nm]
        refine ⟨_, _, _, _, I2, ?_, by omega, rfl, ?_⟩
        · simp only [more, List.append_nil]; simp only [Tm.size] at sk; omega
        · simp [more]
      | bd n => 
        rw [enc_bd]
        simp_arith [s_bm]
        refine ⟨_, _, _, _, I2, ?_, by omega, rfl, ?_⟩
        · simp only [Tm.size] at sk; cases t <;> (simp only [more, List.append_nil]; omega)
        · cases t <;> simp [more]
      | mk f ps =>
        cases t with
        | nm x k => simp [fitF] at c
        | bd n => simp [fitF] at c
        | mk g qs =>
          rw [enc_mk, enc_mk]
          simp_arith []
          have eQ3 : (h ++ [AO.lst (List.map optE (fitF F (Tm.mk f ps) (Tm.mk g qs)).snd), AO.lst (List.map prE Q')])[h.length + 1]? = some (.lst (Q'.map prE)) := by
            rw [List.getElem?_append_right (by omega)]; simp
          have zt : ∀ ps qs : List Tm, zipT (ps.map Tm.enc) (qs.map Tm.enc) = (ps.zip qs).map prE := by
            intro ps
            induction ps with
            | nil => intro qs; rfl
            | cons p ps ih =>
              intro qs
              cases qs with
              | nil => rfl
              | cons q qs => 
                have := ih qs
                simp only [zipT] at this
                simp only [List.map_cons, zipT, List.zipWith_cons_cons, List.zip_cons_cons, this]
                rfl
          refine ⟨isL_ref eQ3, _, _, rfl, rfl, ?_⟩
          rw [zt, extend_ref eQ3]
          have mz : (ps.zip qs).length ≤ 300 := by
            simp only [more] at le3 ms
            omega
          refine ⟨⟨by simp only [List.length_map]; omega, okWs_pure (prE_low _ _)⟩, _, _, _, _, I2, ?_, by omega, rfl, ?_⟩
          · rw [List.map_append, sizes_cat]
            omega
          · rw [List.set_append_right _ _ (by omega), show h.length + 1 - h.length = 1 by omega]
            simp [more]
end
end K72
end
section
set_option Elab.async false
set_option linter.all false
set_option maxRecDepth 100000
namespace K72
open PySem Mn
local macro_rules
  | `(tactic| simp_arith [$ls,*]) => `(tactic| simp only [sat_ok, sat_bad, sat_bind, sat_C, sat_nil, sat_cons, sat_var, sat_tup, sat_lst, sat_mkL, sat_op2, sat_opL, sat_call, sat_att, sat_meth, sat_tv, sat_and, sat_or, sat_not, sat_yes, sat_andV, sat_orV, sat_notV, sat_ifE, sat_seq, sat_dnx, sat_ret, sat_retN, sat_exp, sat_set, sat_if, sat_never, sat_unp, sat_lset, sat_dput, sat_fset, sat_aug, sat_for, sat_comp, sat_fI, sat_sub, sat_div, sat_mod, sat_addI, sat_mulI, sat_addL, sat_addT, sat_addS, sat_ix, sat_in, sat_is, sat_isnot, sat_len, sat_pow, sat_bm, sat_sl, sat_part, sat_nopart, sat_eq, sat_ne, sat_seqI, seqI_lst, seqI_tup, ix_tup, ix_lst, ix_scr, atI_0, atI_1, atI_2, atI_3, atI_4, dat_str, dat_int, dat_non, dat_nil, eq_str, eq_int, PV.isN, fnE, List.map_cons, List.map_nil, List.length_cons, List.length_nil, Nat.reduceAdd, Nat.reduceSub, List.reduceReplicate, List.cons_append, List.nil_append, List.append_nil, List.getElem?_cons_succ, List.getElem?_cons_zero, List.set_cons_succ, List.set_cons_zero, Option.some.injEq, PV.bl.injEq, PV.int.injEq, exists_eq_left', exists_eq_left, decide_eq_true_eq, Bool.not_eq_true', Nat.reduceLeDiff, true_and, and_true, Bool.false_eq_true, if_true, if_false, gt_iff_lt, ge_iff_le, reduceCtorEq, false_and, and_false, exists_false, Bool.not_true, Bool.not_false, sat_rng1, sat_rng2, sat_zip, sat_zipL, sat_listOf, sat_tupOf, sat_all, sat_any, sat_isi, sat_make, sat_dic0, seqOf_lst, seqOf_tup, lstOf_lst, lenP_lst, lenP_tup, srcP_lst, srcP_tup, tyP_str, tyP_tup, tyP_lst, tyP_int, tyP_non, Option.bind_some, cut_to, cut_from, cut_toT, cut_fromT, wipeE, $ls,*])
structure LR (B : Nat → Prop) (E : (Nat → Tm) → Prop) (V : Tm → Prop) (F : Fd) (c : Bool) (F' : Fd) : Prop where
  len : F'.length = F.length
  ext : ∀ σ, Agree F' σ → Agree F σ
  domm : ∀ n, dom F n → dom F' n
  domn : ∀ n, dom F' n → dom F n ∨ B n
  yes : c = true → (∀ n, B n → dom F' n) ∧ ∀ σ, Agree F' σ → E σ
  no : ∀ σ, Agree F σ → E σ → c = true ∧ Agree F' σ
  vals : ∀ s, some s ∈ F' → some s ∈ F ∨ V s
theorem LR.nil (F : Fd) : LR (fun _ => False) (fun _ => True) (fun _ => False) F true F :=
  ⟨rfl, fun _ h => h, fun _ h => h, fun _ h => .inl h, fun _ => ⟨fun _ h => h.elim, fun _ _ => trivial⟩, fun _ h _ => ⟨rfl, h⟩, fun _ h => .inl h⟩
theorem LR.comp {B1 B2 : Nat → Prop} {E1 E2 : (Nat → Tm) → Prop} {V1 V2 : Tm → Prop} {F F1 F2 : Fd} {c1 c2 : Bool} (a : LR B1 E1 V1 F c1 F1) (b : LR B2 E2 V2 F1 c2 F2) : LR (fun n => B1 n ∨ B2 n) (fun σ => E1 σ ∧ E2 σ) (fun s => V1 s ∨ V2 s) F (c1 && c2) F2 where
  len := by rw [b.len, a.len]
  ext := fun σ h => a.ext σ (b.ext σ h)
  domm := fun n h => b.domm n (a.domm n h)
  domn := fun n h => by
    rcases b.domn n h with h | h
    · rcases a.domn n h with h | h
      · exact .inl h
      · exact .inr (.inl h)
    · exact .inr (.inr h)
  yes := fun h => by
    rw [Bool.and_eq_true] at h
    obtain ⟨a1, a2⟩ := a.yes h.1
    obtain ⟨b1, b2⟩ := b.yes h.2
    exact ⟨fun n hn => hn.elim (fun h => b.domm n (a1 n h)) (b1 n), fun σ ag => ⟨a2 σ (b.ext σ ag), b2 σ ag⟩⟩
  no := fun σ ag ⟨h1, h2⟩ => by
    obtain ⟨x1, x2⟩ := a.no σ ag h1
    obtain ⟨y1, y2⟩ := b.no σ x2 h2
    exact ⟨by rw [x1, y1]; rfl, y2⟩
  vals := fun s h => by
    rcases b.vals s h with h | h
    · rcases a.vals s h with h | h
      · exact .inl h
      · exact .inr (.inl h)
    · exact .inr (.inr h)
theorem LR.imp {B B' : Nat → Prop} {E E' : (Nat → Tm) → Prop} {V V' : Tm → Prop} {F F' : Fd} {c : Bool} (a : LR B E V F c F') (hB : ∀ n, B n ↔ B' n) (hE : ∀ σ, E σ ↔ E' σ) (hV : ∀ s, V s → V' s) : LR B' E' V' F c F' where
  len := a.len
  ext := a.ext
  domm := a.domm
  domn := fun n h => (a.domn n h).imp id (hB n).mp
  yes := fun h => ⟨fun n hn => (a.yes h).1 n ((hB n).mpr hn), fun σ ag => (hE σ).mp ((a.yes h).2 σ ag)⟩
  no := fun σ ag h => a.no σ ag ((hE σ).mpr h)
  vals := fun s h => (a.vals s h).imp id (hV s)
abbrev LRt (p t : Tm) : Fd → Bool → Fd → Prop := LR (fun n => Sub (.bd n) p) (fun σ => inst σ p = t) (fun s => Sub s t)
theorem same_set {h : AH} {r : Nat} {o : AO} (e : h[r]? = some o) : h.set r o = h := by
  apply List.ext_getElem?
  intro i
  rw [List.getElem?_set]
  split
  · rename_i z; subst z
    have hr : r < h.length := (List.getElem?_eq_some_iff.mp e).1
    first | rw [if_pos hr, e] | rw [e]
  · rfl
section
variable {ws : List Told} {ks : List Str}
theorem lawfits_ok (W : WsOk ws) {r : Nat} : ∀ (m : Nat) (p t : Tm) (k : Str) (F : Fd) (b : Nat) (h : AH), p.dep ≤ m → p.dep ≤ 50 → t.dep ≤ 50 → Pk ws ks p k → Pk ws [] t k → h[r]? = some (.lst (F.map optE)) → F.length = ks.length → (∀ s, some s ∈ F → s.dep ≤ 50) →
    (f__law_fits m [p.enc, t.enc, .ref r] b h).sat fun v h' => ∃ c F', v = .bl c ∧ h' = h.set r (.lst (F'.map optE)) ∧ LRt p t F c F'
  | 0, p, t, k, F, b, h, d, _, _, _, _, _, _, _ => by cases p <;> simp [Tm.dep] at d
  | m + 1, p, t, k, F, b, h, d, dp, dt, pp, pt, e, hl, hF => by
    have hr : r < h.length := (List.getElem?_eq_some_iff.mp e).1
    show (mkFn true 5 (d__law_fits (f__law_fits m)) _ b h).sat _
    rw [sat_fn]
    unfold d__law_fits
    cases pp with
    | nm =>
      rename_i x
      rw [enc_nm]
      have q := dat_tm (h := h) (t := .nm x k) dp
      rw [enc_nm] at q
      simp_arith [s_nb, q, dat_tm dt]
      rw [popS_same rfl]
      refine ⟨_, F, rfl, (same_set e).symm, rfl, fun _ h => h, fun _ h => h, fun _ h => .inl h, fun c => ?_, fun σ ag h => ?_, fun _ h => .inl h⟩
      · have := (eq_enc (.nm x k) t).mp c
        exact ⟨fun n s => (by cases s), fun σ _ => by rw [inst]; exact this⟩
      · rw [inst] at h
        exact ⟨(eq_enc (.nm x k) t).mpr h, ag⟩
    | bd hn =>
      rename_i n
      have hn' : n < F.length := by rw [hl]; exact (List.getElem?_eq_some_iff.mp hn).1
      have gF : F[n]? = some F[n] := List.getElem?_eq_getElem hn'
      rw [enc_bd]
      have ix : ixP h (.ref r) (.int (n : Nat)) = some (optE F[n]) := by
        rw [ix_ref e, atI_nat, List.getElem?_map, List.getElem?_eq_getElem hn']; rfl
      simp_arith [ix, -PV.isN]
      cases eF : F[n] with
      | some s =>
        have ds : s.dep ≤ 50 := hF s (by rw [← eF]; exact List.getElem_mem hn')
        have dd := dat_tm (h := h) ds
        simp_arith [-PV.isN, optE, isN_enc, dd, dat_tm dt]
        rw [popS_same rfl]
        rw [eF] at gF
        refine ⟨_, F, rfl, (same_set e).symm, rfl, fun _ h => h, fun _ h => h, fun _ h => .inl h, fun c => ?_, fun σ ag h => ?_, fun _ h => .inl h⟩
        · have := (eq_enc s t).mp c
          exact ⟨fun j sb => (by cases sb; exact ⟨s, gF⟩), fun σ ag => by rw [inst, ← this]; exact ag n s gF⟩
        · rw [inst] at h
          exact ⟨(eq_enc s t).mpr ((ag n s gF).symm.trans h), ag⟩
      | none =>
        simp_arith [-PV.isN, isN_non, optE]
        have es := lset_ref (b := h.length) (v := t.enc) e (okW_pure (low_dat _ (enc_dat t) 0)) n (by simpa using hn')
        refine ⟨_, es, ?_⟩
        have sm : (F.map optE).set n t.enc = (F.set n (some t)).map optE := by rw [List.map_set]; rfl
        rw [sm]
        have e2 : (h.set r (.lst ((F.set n (some t)).map optE)))[r]? = some (.lst ((F.set n (some t)).map optE)) := List.getElem?_set_self hr
        refine ⟨t.enc, by rw [ix_ref e2, atI_nat, List.getElem?_map, List.getElem?_set_self hn']; rfl, _, dat_tm dt, _, dat_tm dt, ?_⟩
        rw [popS_same (by simp)]
        rw [eF] at gF
        refine ⟨_, F.set n (some t), rfl, rfl, by simp, fun σ ag => ((agree_set gF).mp ag).1, fun j hj => (dom_set gF j).mpr (.inl hj), fun j hj => ((dom_set gF j).mp hj).imp id (fun h => by rw [h]; exact .refl _), fun _ => ⟨fun j sb => (by cases sb; exact (dom_set gF n).mpr (.inr rfl)), fun σ ag => by rw [inst]; exact ((agree_set gF).mp ag).2⟩, fun σ ag h => ⟨eqv_self t, (agree_set gF).mpr ⟨ag, by rw [inst] at h; exact h⟩⟩, fun s hs => ?_⟩
        rcases List.mem_or_eq_of_mem_set hs with h | h
        · exact .inl h
        · cases h; exact .inr (.refl _)
    | mk hs hlen ha =>
      rename_i f tk ps
      have q := dat_tm (h := h) (t := .mk f ps) dp
      have fals : (Tm.mk f ps ≠ t) → ∀ F : Fd, LRt (.mk f ps) t F false F ∨ True := fun _ _ => .inr trivial
      rw [enc_mk] at q ⊢
      cases t with
      | bd n => exact (pk_closed pt).elim
      | nm x k =>
        have q2 := dat_tm (h := h) (t := .nm x k) dt
        rw [enc_nm] at q2 ⊢
        simp_arith [s_mb, s_mn, s_nm, q, q2]
        rw [popS_same rfl]
        have ne : PV.eq (.tup [.str "made", .str f, .tup (ps.map Tm.enc)]) (.tup [.str "name", .str x, .str k]) = false := by
          rw [Bool.eq_false_iff]
          intro c
          rw [← enc_mk, ← enc_nm] at c
          cases (eq_enc _ _).mp c
        rw [ne]
        exact ⟨false, F, rfl, (same_set e).symm, rfl, fun _ h => h, fun _ h => h, fun _ h => .inl h, fun c => (by cases c), fun σ ag h => (by rw [inst] at h; cases h), fun _ h => .inl h⟩
      | mk g qs =>
        have q2 := dat_tm (h := h) (t := .mk g qs) dt
        rw [enc_mk] at q2 ⊢
        by_cases fg : f = g
        · subst fg
          cases pt with
          | mk hs2 hl2 ha2 =>
            have := sig_unique W hs hs2 rfl
            cases this
            simp_arith [s_mb, s_mn]
            rw [if_neg (by decide), if_neg (by decide)]
            have hpq : ps.length = qs.length := by rw [hlen, hl2]
            have dpm : Tm.deps ps ≤ m := by simp only [Tm.dep] at d; omega
            have dp2 : Tm.deps ps ≤ 50 := by simp only [Tm.dep] at dp; omega
            have dq2 : Tm.deps qs ≤ 50 := by simp only [Tm.dep] at dt; omega
            refine ⟨_, _, _, _, rfl, rfl, rfl, ?_⟩
            refine compL_sat _ _ _ _ (fun i acc h' => ∃ (cs : List Bool) (F' : Fd), acc = cs.map PV.bl ∧ h' = h.set r (.lst (F'.map optE)) ∧ LR (fun n => ∃ x ∈ (ps.zip qs).take i, Sub (.bd n) x.1) (fun σ => ∀ x ∈ (ps.zip qs).take i, inst σ x.1 = x.2) (fun s => ∃ q ∈ qs, Sub s q) F (cs.all id) F') ?turn ?fin _ 0 [] _ (Nat.add_zero _) ⟨[], F, rfl, (same_set e).symm, (LR.nil F).imp (fun n => by simp) (fun σ => by simp) (fun s h => h.elim)⟩
            case turn =>
              rintro i acc h' hi ⟨cs, F', rfl, rfl, L⟩
              have hi1 : i < ps.length := by
                have z : i < min (ps.map Tm.enc).length (qs.map Tm.enc).length := hi
                simp only [List.length_map] at z; omega
              have hi2 : i < qs.length := by omega
              have hz : i < (ps.zip qs).length := by rw [List.length_zip]; omega
              refine ⟨.tup [ps[i].enc, qs[i].enc], _, zip_get (by rw [List.getElem?_map, List.getElem?_eq_getElem hi1]; rfl) (by rw [List.getElem?_map, List.getElem?_eq_getElem hi2]; rfl), rfl, ?_⟩
              have ht : i < tk.length := by omega
              have e' : (h.set r (.lst (F'.map optE)))[r]? = some (.lst (F'.map optE)) := List.getElem?_set_self hr
              have hm := List.getElem_mem hi1
              have hm2 := List.getElem_mem hi2
              simp_arith []
              refine (lawfits_ok W m ps[i] qs[i] tk[i] F' h.length _ (deps_le.mp dpm _ hm) (deps_le.mp dp2 _ hm) (deps_le.mp dq2 _ hm2) (ha i _ _ (List.getElem?_eq_getElem hi1) (List.getElem?_eq_getElem ht)) (ha2 i _ _ (List.getElem?_eq_getElem hi2) (List.getElem?_eq_getElem ht)) e' (by rw [L.len, hl]) (fun s hs => ?_)).mono ?_
              · rcases L.vals s hs with h | ⟨q, hq, sb⟩
                · exact hF s h
                · exact Nat.le_trans (sub_dep sb) (deps_le.mp dq2 _ hq)
              · rintro v h3 ⟨c, F2, rfl, rfl, L2⟩
                have tz : (ps.zip qs).take (i + 1) = (ps.zip qs).take i ++ [(ps[i], qs[i])] := by
                  rw [List.take_succ, List.getElem?_eq_getElem hz, List.getElem_zip]; rfl
                refine ⟨cs ++ [c], F2, by simp, List.set_set .., ?_⟩
                have := (L.comp L2).imp (B' := fun n => ∃ x ∈ (ps.zip qs).take (i + 1), Sub (.bd n) x.1) (E' := fun σ => ∀ x ∈ (ps.zip qs).take (i + 1), inst σ x.1 = x.2) (V' := fun s => ∃ q ∈ qs, Sub s q) (fun n => by
                  rw [tz]
                  constructor
                  · rintro (⟨x, hx, s⟩ | s)
                    · exact ⟨x, List.mem_append_left _ hx, s⟩
                    · exact ⟨_, List.mem_append_right _ (List.mem_singleton.mpr rfl), s⟩
                  · rintro ⟨x, hx, s⟩
                    rcases List.mem_append.mp hx with hx | hx
                    · exact .inl ⟨x, hx, s⟩
                    · rw [List.mem_singleton.mp hx] at s; exact .inr s) (fun σ => by
                  rw [tz]
                  constructor
                  · rintro ⟨h1, h2⟩ x hx
                    rcases List.mem_append.mp hx with hx | hx
                    · exact h1 x hx
                    · rw [List.mem_singleton.mp hx]; exact h2
                  · exact fun h => ⟨fun x hx => h x (List.mem_append_left _ hx), h _ (List.mem_append_right _ (List.mem_singleton.mpr rfl))⟩) (fun s h => h.elim id fun sb => ⟨_, hm2, sb⟩)
                rw [List.all_append]
                simpa using this
            case fin =>
              rintro acc h' ⟨cs, F', rfl, rfl, L⟩
              refine ⟨rfl, ?_⟩
              refine ⟨_, blsOf_map id cs, ?_⟩
              rw [popS_same (by simp)]
              have nz : (ps.zip qs).take (itZ (itS (ps.map Tm.enc)) (itS (qs.map Tm.enc))).n = ps.zip qs := by
                apply List.take_of_length_le
                show _ ≤ min (ps.map Tm.enc).length (qs.map Tm.enc).length
                simp
              rw [nz] at L
              refine ⟨_, F', rfl, rfl, ?_⟩
              rw [List.map_id]
              refine L.imp (fun n => ?_) (fun σ => ?_) (fun s ⟨q, hq, sb⟩ => .part hq sb)
              · constructor
                · rintro ⟨x, hx, s⟩
                  exact .part (List.of_mem_zip hx).1 s
                · intro s
                  cases s with
                  | part hp s =>
                    obtain ⟨i, e⟩ := List.mem_iff_getElem?.mp hp
                    have hi : i < qs.length := by rw [← hpq]; exact (List.getElem?_eq_some_iff.mp e).1
                    exact ⟨(_, qs[i]), List.mem_iff_getElem?.mpr ⟨i, List.getElem?_zip_eq_some.mpr ⟨e, List.getElem?_eq_getElem hi⟩⟩, s⟩
              · rw [insts_zip hpq, inst]
                constructor
                · intro h; rw [h]
                · intro h; injection h
        · simp_arith [s_mb, s_mn, fg, q, q2]
          rw [popS_same rfl]
          have ne : PV.eq (.tup [.str "made", .str f, .tup (ps.map Tm.enc)]) (.tup [.str "made", .str g, .tup (qs.map Tm.enc)]) = false := by
            rw [Bool.eq_false_iff]
            intro c
            rw [← enc_mk, ← enc_mk] at c
            cases (eq_enc _ _).mp c
            exact fg rfl
          rw [ne]
          exact ⟨false, F, rfl, (same_set e).symm, rfl, fun _ h => h, fun _ h => h, fun _ h => .inl h, fun c => (by cases c), fun σ ag h => (by rw [inst] at h; injection h with h _; exact absurd h fg), fun _ h => .inl h⟩
end
end K72
end
section
set_option Elab.async false
set_option linter.all false
set_option maxRecDepth 100000
namespace K72
open PySem Mn
local macro_rules
  | `(tactic| simp_arith [$ls,*]) => `(tactic| simp only [sat_ok, sat_bad, sat_bind, sat_C, sat_nil, sat_cons, sat_var, sat_tup, sat_lst, sat_mkL, sat_op2, sat_opL, sat_call, sat_att, sat_meth, sat_tv, sat_and, sat_or, sat_not, sat_yes, sat_andV, sat_orV, sat_notV, sat_ifE, sat_seq, sat_dnx, sat_ret, sat_retN, sat_exp, sat_set, sat_if, sat_never, sat_unp, sat_lset, sat_dput, sat_fset, sat_aug, sat_for, sat_comp, sat_fI, sat_sub, sat_div, sat_mod, sat_addI, sat_mulI, sat_addL, sat_addT, sat_addS, sat_ix, sat_in, sat_is, sat_isnot, sat_len, sat_pow, sat_bm, sat_sl, sat_part, sat_nopart, sat_eq, sat_ne, sat_seqI, seqI_lst, seqI_tup, ix_tup, ix_lst, ix_scr, atI_0, atI_1, atI_2, atI_3, atI_4, dat_str, dat_int, dat_non, dat_nil, eq_str, eq_int, PV.isN, fnE, List.map_cons, List.map_nil, List.length_cons, List.length_nil, Nat.reduceAdd, Nat.reduceSub, List.reduceReplicate, List.cons_append, List.nil_append, List.append_nil, List.getElem?_cons_succ, List.getElem?_cons_zero, List.set_cons_succ, List.set_cons_zero, Option.some.injEq, PV.bl.injEq, PV.int.injEq, exists_eq_left', exists_eq_left, decide_eq_true_eq, Bool.not_eq_true', Nat.reduceLeDiff, true_and, and_true, Bool.false_eq_true, if_true, if_false, gt_iff_lt, ge_iff_le, reduceCtorEq, false_and, and_false, exists_false, Bool.not_true, Bool.not_false, sat_rng1, sat_rng2, sat_zip, sat_zipL, sat_listOf, sat_tupOf, sat_all, sat_any, sat_isi, sat_make, sat_dic0, seqOf_lst, seqOf_tup, lstOf_lst, lenP_lst, lenP_tup, srcP_lst, srcP_tup, tyP_str, tyP_tup, tyP_lst, tyP_int, tyP_non, Option.bind_some, cut_to, cut_from, cut_toT, cut_fromT, wipeE, $ls,*])
theorem eqvAll_self {xs : List PV} (h : ∀ x ∈ xs, PyData.eqv x.toD x.toD = true) : PyData.eqvAll (PV.toDs xs) (PV.toDs xs) = true := by
  induction xs with
  | nil => rfl
  | cons x xs ih =>
    simp only [PV.toDs, PyData.eqvAll, Bool.and_eq_true]
    exact ⟨h x List.mem_cons_self, ih fun y hy => h y (List.mem_cons_of_mem _ hy)⟩
theorem eq_self : ∀ v : PV, v.dat = true → v.eq v = true := by
  intro v
  induction v using PV.ind with
  | tup xs ih =>
    intro d
    have d' := PV.dats_iff.mp (show PV.dats xs = true from d)
    show PyData.eqvAll _ _ = true
    exact eqvAll_self fun x hx => ih x hx (d' x hx)
  | lst xs ih =>
    intro d
    have d' := PV.dats_iff.mp (show PV.dats xs = true from d)
    show PyData.eqvAll _ _ = true
    exact eqvAll_self fun x hx => ih x hx (d' x hx)
  | non => intro _; rfl
  | bl b => intro _; simp [PV.eq, PV.toD, PyData.eqv]
  | int i => intro _; simp [PV.eq, PV.toD, PyData.eqv]
  | str s => intro _; simp [PV.eq, PV.toD, PyData.eqv]
  | dic => intro d; cases d
  | ins => intro d; cases d
  | scr => intro d; cases d
  | ty => intro d; cases d
  | cl => intro d; cases d
  | ref => intro d; cases d
theorem depthAll_le {n : Nat} {xs : List PV} (h : ∀ x ∈ xs, x.toD.depth ≤ n) : PyData.depthAll (PV.toDs xs) ≤ n := by
  induction xs with
  | nil => simp [PV.toDs, PyData.depthAll]
  | cons x xs ih =>
    simp only [PV.toDs, PyData.depthAll]
    have := ih fun y hy => h y (List.mem_cons_of_mem _ hy)
    have := h x List.mem_cons_self
    omega
theorem datOf_of {h : AH} {v : PV} (d : v.dat = true) (z : v.toD.depth ≤ 120) : datOf h v = some v := by
  unfold datOf
  rw [if_pos d, if_pos (by rw [Nat.ble_eq]; exact z)]
theorem optE_d (o : Option Tm) : (optE o).dat = true := by cases o with
  | none => rfl
  | some t => exact enc_dat t
theorem optE_z {n : Nat} (o : Option Tm) (d : ∀ t, o = some t → t.dep ≤ n) : (optE o).toD.depth ≤ 2 * n + 1 := by cases o with
  | none => simp [optE, PV.toD, PyData.depth]
  | some t => have := enc_depth t; have := d t rfl; simp only [optE]; omega
theorem instV_dat {ps : List PV} (hd : ∀ p ∈ ps, p.dat = true) : ∀ t : Tm, (instV ps t).dat = true := by
  intro t
  induction t using Tm.ind with
  | nm x k => rfl
  | bd n =>
    rw [instV]
    by_cases z : n < ps.length
    · rw [List.getD, List.getElem?_eq_getElem z]; exact hd _ (List.getElem_mem z)
    · rw [List.getD, List.getElem?_eq_none (by omega)]; rfl
  | mk f ts ih =>
    rw [instV]
    have : PV.dats (instVs ps ts) = true := by
      rw [instVs_map]
      exact PV.dats_iff.mpr fun x hx => by
        obtain ⟨t, ht, rfl⟩ := List.mem_map.mp hx
        exact ih t ht
    simp [PV.dat, PV.dats, this]
theorem instV_depth {ps : List PV} {D : Nat} (hd : ∀ p ∈ ps, p.toD.depth ≤ D) : ∀ t : Tm, (instV ps t).toD.depth ≤ 2 * t.dep + D := by
  intro t
  induction t using Tm.ind with
  | nm x k => rw [instV]; have := enc_depth (.nm x k); omega
  | bd n =>
    rw [instV]
    by_cases z : n < ps.length
    · rw [List.getD, List.getElem?_eq_getElem z]; have := hd _ (List.getElem_mem z); simp only [Option.getD_some]; omega
    · rw [List.getD, List.getElem?_eq_none (by omega)]; simp [PV.toD, PyData.depth]
  | mk f ts ih =>
    rw [instV]
    have : PyData.depthAll (PV.toDs (instVs ps ts)) ≤ 2 * Tm.deps ts + D := by
      rw [instVs_map]
      refine depthAll_le fun x hx => ?_
      obtain ⟨t, ht, rfl⟩ := List.mem_map.mp hx
      have := ih t ht
      have := deps_le.mp (Nat.le_refl (Tm.deps ts)) t ht
      omega
    simp only [PV.toD, PV.toDs, PyData.depth, PyData.depthAll, Tm.dep]
    omega
section
variable {ws : List Told} {ks : List Str} {l t0 : Tm}
def sigF (F : Fd) (n : Nat) : Tm := match F[n]? with
  | some (some t) => t
  | _ => .bd 0
theorem agree_sig (F : Fd) : Agree F (sigF F) := fun n t e => by unfold sigF; rw [e]
theorem right_told_ok (W : WsOk ws) {rr : Tm} {k k2 : Str} (pl : Pk ws ks l k) (pr : Pk ws ks rr k2) (pt : Pk ws [] t0 k) (hk : ks.length ≤ 20) (dl : l.dep ≤ 12) (dr : rr.dep ≤ 12) (dt : t0.dep ≤ 12) (zl : l.size ≤ 300) (zr : rr.size ≤ 300) (b : Nat) (h : AH) :
    f__law_right_told [gV ws, ruleV ks l rr, t0.enc] b h = .ok (.bl true) h := by
  apply sat_eq_of
  unfold f__law_right_told
  rw [sat_fn]
  unfold d__law_right_told
  rw [sat_seq]
  simp_arith [-sat_seq, ruleV]
  refine ⟨_, rfl, ?_⟩
  rw [sat_seq]
  simp_arith [-sat_seq]
  rw [List.length_map, sat_mulN (by omega) (by decide), rep_flat, sat_mkL]
  simp only [if_true]
  rw [sat_seq]
  simp_arith [-sat_seq]
  have fo := @fitting_ok ws ks l t0 W rr k pl pt hk (Nat.le_trans dl (by decide)) (Nat.le_trans dt (by decide)) zl
  unfold ruleV at fo
  with_reducible refine R.sat.mono (fo _ _) ?_
  rintro v h1 ⟨res, rfl⟩
  rw [sat_seq]
  have eD : (h ++ [AO.lst ((List.replicate ks.length (none : Option Tm)).map optE)])[h.length]? = some (.lst ((List.replicate ks.length (none : Option Tm)).map optE)) := by
    rw [List.getElem?_append_right (Nat.le_refl _)]; simp
  simp_arith [-sat_seq]
  refine (lawfits_ok W 12 l t0 k _ _ _ dl (by omega) (by omega) pl pt eD (by simp) (fun s hs => by have := List.eq_of_mem_replicate hs; cases this)).mono ?_
  rintro v2 h2 ⟨c, F, rfl, rfl, L⟩
  rw [List.set_append_right _ _ (Nat.le_refl _), Nat.sub_self, List.set_cons_zero]
  have ag0 : ∀ σ, Agree (List.replicate ks.length (none : Option Tm)) σ := fun σ n t e => by
    rw [List.getElem?_replicate] at e; split at e <;> simp at e
  have dm0 : ∀ n, ¬ dom (List.replicate ks.length (none : Option Tm)) n := fun n ⟨t, e⟩ => by
    rw [List.getElem?_replicate] at e; split at e <;> simp at e
  cases c with
  | false =>
    have nv : v = .non := by
      rcases res with ⟨h, _⟩ | ⟨F2, _, I⟩
      · exact h
      · have := (I.eqv (sigF F2)).mpr ⟨agree_sig F2, fun q hq => by cases hq⟩
        have := (L.no _ (ag0 _) this).1
        cases this
    subst nv
    simp_arith []
    rw [popS_low rfl (by simp)]
    exact ⟨rfl, by simp⟩
  | true =>
    obtain ⟨y1, y2⟩ := L.yes rfl
    rcases res with ⟨_, h⟩ | ⟨F2, rfl, I⟩
    · exact absurd (y2 _ (agree_sig F)) (h _)
    have lenF : F.length = F2.length := by rw [L.len, I.len]; simp
    have FF : F2 = F := by
      apply List.ext_getElem?
      intro n
      by_cases hn : n < F.length
      · have hn2 : n < F2.length := by omega
        have d1 : dom F n ↔ Sub (.bd n) l := ⟨fun h => (L.domn n h).resolve_left (dm0 n), y1 n⟩
        have d2 : dom F2 n ↔ Sub (.bd n) l := by rw [I.cov n]; simp
        cases e1 : F[n] with
        | none =>
          cases e2 : F2[n] with
          | none => rw [List.getElem?_eq_getElem hn, List.getElem?_eq_getElem hn2, e1, e2]
          | some s =>
            have : dom F n := d1.mpr (d2.mp ⟨s, by rw [List.getElem?_eq_getElem hn2, e2]⟩)
            obtain ⟨t, e⟩ := this
            rw [List.getElem?_eq_getElem hn, e1] at e
            cases e
        | some s =>
          have : dom F2 n := d2.mpr (d1.mp ⟨s, by rw [List.getElem?_eq_getElem hn, e1]⟩)
          obtain ⟨t, e⟩ := this
          have q1 := y2 _ (agree_sig F)
          have q2 := ((I.eqv (sigF F)).mp q1).1 n t e
          have q3 := agree_sig F n s (by rw [List.getElem?_eq_getElem hn, e1])
          rw [e, List.getElem?_eq_getElem hn, e1, ← q2, q3]
      · rw [List.getElem?_eq_none (by omega), List.getElem?_eq_none (by omega)]
    subst FF
    have vdep : ∀ s, some s ∈ F2 → s.dep ≤ 12 := fun s hs => Nat.le_trans (sub_dep (I.vals s hs)) dt
    have dF : ∀ h : AH, datOf h (.tup (F2.map optE)) = some (.tup (F2.map optE)) := fun h => datOf_of (PV.dats_iff.mpr fun x hx => by
      obtain ⟨o, _, rfl⟩ := List.mem_map.mp hx
      exact optE_d o) (by
      have : PyData.depthAll (PV.toDs (F2.map optE)) ≤ 25 := depthAll_le fun x hx => by
        obtain ⟨o, ho, rfl⟩ := List.mem_map.mp hx
        exact optE_z (n := 12) o fun t e => vdep t (by rw [← e]; exact ho)
      simp only [PV.toD, PyData.depth]; omega)
    have sF : (PV.tup (F2.map optE)).eq (.tup (F2.map optE)) = true := eq_self _ (PV.dats_iff.mpr fun x hx => by
      obtain ⟨o, _, rfl⟩ := List.mem_map.mp hx
      exact optE_d o)
    have eF : (h ++ [AO.lst (F2.map optE)])[h.length]? = some (.lst (F2.map optE)) := by
      rw [List.getElem?_append_right (Nat.le_refl _)]; simp
    try simp_arith [-sat_seq]
    rw [sat_seq]
    simp_arith [-sat_seq, kit_tt]
    refine ⟨_, seqOf_ref eF, _, dF _, _, dF _, ?_⟩
    rw [sF]
    rw [if_neg (by decide)]
    have lows : ∀ p ∈ F2.map optE, p.low 0 = true := fun p hp => by
      obtain ⟨o, _, rfl⟩ := List.mem_map.mp hp
      exact optE_low o
    have dats : ∀ p ∈ F2.map optE, p.dat = true := fun p hp => by
      obtain ⟨o, _, rfl⟩ := List.mem_map.mp hp
      exact optE_d o
    have deps : ∀ p ∈ F2.map optE, p.toD.depth ≤ 25 := fun p hp => by
      obtain ⟨o, ho, rfl⟩ := List.mem_map.mp hp
      exact optE_z (n := 12) o fun t e => vdep t (by rw [← e]; exact ho)
    have len2 : (F2.map optE).length = ks.length := by rw [List.length_map, I.len]
    have bl : Bel (F2.map optE).length l := by rw [len2]; exact pk_bel pl
    have br : Bel (F2.map optE).length rr := by rw [len2]; exact pk_bel pr
    have pe : ∀ n, n < (F2.map optE).length → ixP (h ++ [AO.lst (F2.map optE)]) (.ref h.length) (.int (n : Nat)) = some ((F2.map optE).getD n .non) := fun n hn => by
      rw [ix_ref eF, atI_nat, List.getD, List.getElem?_eq_getElem hn]; rfl
    have il : instV (F2.map optE) l = t0.enc := by
      have e1 := y2 _ (agree_sig F2)
      rw [← e1]
      refine inst_V l fun n sb => ?_
      obtain ⟨t, e⟩ := y1 n sb
      rw [List.getD, List.getElem?_map, e]
      simp only [sigF, e]
      rfl
    have fl := fun b h => filled_eq lows 12 l b h bl dl (by omega)
    have fr := fun b h => filled_eq lows 12 rr b h br dr (by omega)
    have pr2 := fun b => put_eq pe 12 rr b br dr
    have dr2 : ∀ h : AH, datOf h (instV (F2.map optE) rr) = some (instV (F2.map optE) rr) := fun h => datOf_of (instV_dat dats rr) (by have := instV_depth deps rr; omega)
    rw [il] at fl
    rw [sat_seq]
    simp_arith [eq_sat (fl _ _), eq_sat (fr _ _), eq_sat (pr2 _), dat_tm (show t0.dep ≤ 50 by omega), dr2]
    rw [eqv_self, eq_self _ (instV_dat dats rr)]
    simp only [if_true]
    rw [popS_low rfl (by simp)]
    simp
end
end K72
end
section
set_option Elab.async false
set_option linter.all false
set_option maxRecDepth 100000
namespace K72
open PySem Mn
local macro_rules
  | `(tactic| simp_arith [$ls,*]) => `(tactic| simp only [sat_ok, sat_bad, sat_bind, sat_C, sat_nil, sat_cons, sat_var, sat_tup, sat_lst, sat_mkL, sat_op2, sat_opL, sat_call, sat_att, sat_meth, sat_tv, sat_and, sat_or, sat_not, sat_yes, sat_andV, sat_orV, sat_notV, sat_ifE, sat_seq, sat_dnx, sat_ret, sat_retN, sat_exp, sat_set, sat_if, sat_never, sat_unp, sat_lset, sat_dput, sat_fset, sat_aug, sat_for, sat_comp, sat_fI, sat_sub, sat_div, sat_mod, sat_addI, sat_mulI, sat_addL, sat_addT, sat_addS, sat_ix, sat_in, sat_is, sat_isnot, sat_len, sat_pow, sat_bm, sat_sl, sat_part, sat_nopart, sat_eq, sat_ne, sat_seqI, seqI_lst, seqI_tup, ix_tup, ix_lst, ix_scr, atI_0, atI_1, atI_2, atI_3, atI_4, dat_str, dat_int, dat_non, dat_nil, eq_str, eq_int, PV.isN, fnE, List.map_cons, List.map_nil, List.length_cons, List.length_nil, Nat.reduceAdd, Nat.reduceSub, List.reduceReplicate, List.cons_append, List.nil_append, List.append_nil, List.getElem?_cons_succ, List.getElem?_cons_zero, List.set_cons_succ, List.set_cons_zero, Option.some.injEq, PV.bl.injEq, PV.int.injEq, exists_eq_left', exists_eq_left, decide_eq_true_eq, Bool.not_eq_true', Nat.reduceLeDiff, true_and, and_true, Bool.false_eq_true, if_true, if_false, gt_iff_lt, ge_iff_le, reduceCtorEq, false_and, and_false, exists_false, Bool.not_true, Bool.not_false, sat_rng1, sat_rng2, sat_zip, sat_zipL, sat_listOf, sat_tupOf, sat_all, sat_any, sat_isi, sat_make, sat_dic0, seqOf_lst, seqOf_tup, lstOf_lst, lenP_lst, lenP_tup, srcP_lst, srcP_tup, tyP_str, tyP_tup, tyP_lst, tyP_int, tyP_non, Option.bind_some, cut_to, cut_from, cut_toT, cut_fromT, wipeE, $ls,*])
/-! ## rules of works -/
theorem idx_some : ∀ {ns : List Nm} {m : Nm} {i : Nat}, idxN ns m = some i → ns[i]? = some m
  | [], m, i, h => by cases h
  | n :: ns, m, i, h => by
    unfold idxN at h
    split at h
    · rename_i z; cases h; rw [z]; rfl
    · obtain ⟨j, e, rfl⟩ := Option.map_eq_some_iff.mp h
      show ns[j]? = some m
      exact idx_some e
theorem bnd_pk {ws : List Told} {ns : List Nm} {t : Tm} {k : Str} (p : Pk ws [] t k) : Pk ws (ns.map (·.2)) (bnd ns t) k := by
  induction p with
  | nm =>
    rename_i x k
    unfold bnd
    cases e : idxN ns (x, k) with
    | none => exact .nm
    | some i => exact .bd (by rw [List.getElem?_map, idx_some e]; rfl)
  | bd e => cases e
  | mk hs hl ha ih =>
    rename_i ps
    rw [bnd]
    refine .mk hs (by rw [bnds_map, List.length_map, hl]) fun i q t e1 e2 => ?_
    rw [bnds_map, List.getElem?_map] at e1
    obtain ⟨p, e, rfl⟩ := Option.map_eq_some_iff.mp e1
    exact ih i p t e e2
theorem bnd_nm (ns : List Nm) (x k : Str) : (∃ i, bnd ns (.nm x k) = .bd i) ∨ bnd ns (.nm x k) = .nm x k := by
  rw [bnd]
  split
  · exact .inl ⟨_, rfl⟩
  · exact .inr rfl
theorem bnd_dep {ns : List Nm} : ∀ t : Tm, (bnd ns t).dep = t.dep ∧ (bnd ns t).size = t.size := by
  intro t
  induction t using Tm.ind with
  | nm x k =>
    rcases bnd_nm ns x k with ⟨i, e⟩ | e <;> (rw [e]; exact ⟨rfl, rfl⟩)
  | bd n => rw [bnd]; exact ⟨rfl, rfl⟩
  | mk f ps ih =>
    rw [bnd]
    have : ∀ qs : List Tm, (∀ q ∈ qs, q ∈ ps) → Tm.deps (bnds ns qs) = Tm.deps qs ∧ Tm.sizes (bnds ns qs) = Tm.sizes qs := by
      intro qs
      induction qs with
      | nil => intro _; exact ⟨rfl, rfl⟩
      | cons q qs ih2 =>
        intro h
        obtain ⟨a, b⟩ := ih2 fun q hq => h q (List.mem_cons_of_mem _ hq)
        obtain ⟨c, d⟩ := ih q (h q List.mem_cons_self)
        simp only [bnds, Tm.deps, Tm.sizes, a, b, c, d, and_self]
    obtain ⟨a, b⟩ := this ps fun _ h => h
    exact ⟨by simp only [Tm.dep, a], by simp only [Tm.size, b]⟩
def nmT (n : Nm) : Tm := .nm n.1 n.2
def leftT (w : Told) : Option (Nat × Str × List Str) → Tm
  | none => .mk w.f ((xs w.tk).map nmT)
  | some (a, m) => .mk w.f (((xs w.tk).map nmT).set a (.mk m.1 ((ys m.2).map nmT)))
def makV : Option (Nat × Str × List Str) → PV
  | none => .non
  | some (_, m) => .tup [.str m.1, .lst (m.2.map .str)]
theorem nmT_enc (ns : List Nm) : (ns.map nmT).map Tm.enc = ns.map nmV := by rw [List.map_map]; rfl
theorem left_eq {w : Told} (hz : w.tk.length ≤ 3) {mo : Option (Nat × Str × List Str)} (hm : ∀ a m, mo = some (a, m) → w.at_ = some a ∧ a < w.tk.length ∧ m.2.length ≤ 2) (b : Nat) (h : AH) : f__law_left [w.enc, makV mo] b h = .ok (leftT w mo).enc h := by
  apply sat_eq_of
  unfold f__law_left
  rw [sat_fn]
  unfold d__law_left
  rw [sat_seq]
  unfold Told.enc
  simp_arith [-sat_seq]
  refine ⟨_, rfl, ⟨by simp; omega, by simp⟩, ?_⟩
  refine compL_rg _ _ _ _ _ (fun _ => true) (fun i => nmV (("x" : Str) ++ al i, w.tk.getD i "")) (fun j hj => ?_) ?_
  · have hj' : j < w.tk.length := by simpa using hj
    refine ⟨_, rfl, ⟨rfl, rfl⟩, fun _ => ?_⟩
    simp_arith [Int.zero_add]
    refine ⟨_, abc_ix (by omega), ?_⟩
    simp_arith [atI_nat, List.getElem?_map, List.getElem?_eq_getElem hj']
    refine ⟨by rw [al_len]; decide, _, rfl, ?_⟩
    simp only [List.getD, List.getElem?_eq_getElem hj', Option.getD_some]
    rfl
  rw [filter_yes]
  rw [show (Int.toNat (((w.tk.map PV.str).length : Nat) : Int)) = w.tk.length by simp]
  rw [xs_range hz (fun i hi => by simp [List.getD, List.getElem?_eq_getElem hi])]
  try simp_arith [-sat_seq]
  rw [sat_seq]
  have el : ∀ x, (h ++ [AO.lst x])[h.length]? = some (.lst x) := fun x => by
    rw [List.getElem?_append_right (Nat.le_refl _)]; simp
  cases mo with
  | none =>
    unfold makV
    simp_arith [-sat_seq]
    rw [sat_seq]
    simp_arith []
    refine ⟨_, seqOf_ref (el _), ?_⟩
    rw [popS_low (by simp [PV.low, PV.lowL, nms_low]) (by simp)]
    refine ⟨?_, by simp⟩
    rw [leftT, enc_mk, nmT_enc]
  | some am =>
    obtain ⟨a, m⟩ := am
    obtain ⟨h1, h2, h3⟩ := hm a m rfl
    unfold makV
    simp_arith [-sat_seq]
    rw [sat_seq]
    simp_arith [-sat_seq]
    refine ⟨_, rfl, ⟨by simp; omega, by simp⟩, ?_⟩
    refine compL_rg _ _ _ _ _ (fun _ => true) (fun i => nmV (("y" : Str) ++ al i, m.2.getD i "")) (fun j hj => ?_) ?_
    · have hj' : j < m.2.length := by simpa using hj
      refine ⟨_, rfl, ⟨rfl, rfl⟩, fun _ => ?_⟩
      simp_arith [Int.zero_add]
      refine ⟨_, ab_ix (by omega), ?_⟩
      simp_arith [atI_nat, List.getElem?_map, List.getElem?_eq_getElem hj']
      refine ⟨by rw [al_len]; decide, _, rfl, ?_⟩
      simp only [List.getD, List.getElem?_eq_getElem hj', Option.getD_some]
      rfl
    rw [filter_yes]
    rw [show (Int.toNat (((m.2.map PV.str).length : Nat) : Int)) = m.2.length by simp]
    rw [ys_range h3 (fun i hi => by simp [List.getD, List.getElem?_eq_getElem hi])]
    have xl : (xs w.tk).length = w.tk.length := by unfold xs; rw [List.length_zip]; simp; omega
    have lt : (PV.tup [.str "made", .str m.1, .tup ((ys m.2).map nmV)]).low 0 = true := by simp [PV.low, PV.lowL, nms_low]
    have el2 : ∀ x y, (h ++ [AO.lst x, AO.lst y])[h.length]? = some (.lst x) ∧ (h ++ [AO.lst x, AO.lst y])[h.length + 1]? = some (.lst y) := fun x y => by
      constructor
      · rw [List.getElem?_append_right (Nat.le_refl _)]; simp
      · rw [List.getElem?_append_right (by omega)]; simp
    try simp_arith [-sat_seq, List.append_assoc]
    rw [sat_seq]
    simp_arith [-sat_seq, h1, atV]
    have es := lset_ref (b := h.length) (v := PV.tup [.str "made", .str m.1, .tup ((ys m.2).map nmV)]) (el ((xs w.tk).map nmV)) (okW_pure lt) a (by rw [List.length_map, xl]; exact h2)
    refine ⟨_, es, ?_⟩
    rw [List.set_append_right _ _ (Nat.le_refl _), Nat.sub_self, List.set_cons_zero, sat_seq]
    simp_arith []
    refine ⟨_, seqOf_ref (el _), ?_⟩
    have lo : PV.lowL h.length (((xs w.tk).map nmV).set a (.tup [.str "made", .str m.1, .tup ((ys m.2).map nmV)])) = true := PV.lowL_iff.mpr fun x hx => by
      rcases List.mem_or_eq_of_mem_set hx with q | q
      · exact PV.lowL_iff.mp (nms_low h.length _) x q
      · rw [q]; exact PV.low_mono (Nat.zero_le _) _ lt
    rw [popS_low (by simp [PV.low, PV.lowL, lo]) (by simp)]
    refine ⟨?_, by simp⟩
    rw [leftT, enc_mk, List.map_set, nmT_enc, enc_mk, nmT_enc]
def nmsL : List Tm → List Nm
  | [] => []
  | .nm x k :: ts => (x, k) :: nmsL ts
  | .mk _ ps :: ts => nmsOf ps ++ nmsL ts
  | .bd _ :: ts => nmsL ts
/-- a left's parts: names, or made of names -/
def PartOk (t : Tm) : Prop := (∃ n : Nm, t = nmT n) ∨ ∃ (f : Str) (ns : List Nm), t = .mk f (ns.map nmT)
theorem nmsOf_map : ∀ ns : List Nm, nmsOf (ns.map nmT) = ns
  | [] => rfl
  | n :: ns => by
    show (n.1, n.2) :: nmsOf (ns.map nmT) = _
    rw [nmsOf_map ns]
theorem nmsL_app : ∀ (ts us : List Tm), nmsL (ts ++ us) = nmsL ts ++ nmsL us
  | [], us => rfl
  | .nm x k :: ts, us => by simp only [List.cons_append, nmsL, nmsL_app ts us]
  | .mk f ps :: ts, us => by simp only [List.cons_append, nmsL, nmsL_app ts us, List.append_assoc]
  | .bd n :: ts, us => by simp only [List.cons_append, nmsL, nmsL_app ts us]
theorem rule_eq {f : Str} {ps : List Tm} {r : Tm} (hp : ∀ p ∈ ps, PartOk p) (nbr : ∀ n, ¬ Sub (.bd n) r) (dr : r.dep ≤ 12) (zn : (nmsL ps).length ≤ 50) (zp : ps.length ≤ 50) (b : Nat) (h : AH) :
    f__law_rule [(Tm.mk f ps).enc, r.enc] b h = .ok (ruleV ((nmsL ps).map (·.2)) (bnd (nmsL ps) (.mk f ps)) (bnd (nmsL ps) r)) h := by
  apply sat_eq_of
  unfold f__law_rule
  rw [sat_fn]
  unfold d__law_rule
  have dl : (Tm.mk f ps).dep ≤ 3 := by
    simp only [Tm.dep]
    have : Tm.deps ps ≤ 2 := deps_le.mpr fun p h => by
      rcases hp p h with ⟨n, rfl⟩ | ⟨g, ns, rfl⟩
      · simp [nmT, Tm.dep]
      · simp only [Tm.dep]
        have : Tm.deps (ns.map nmT) ≤ 1 := deps_le.mpr fun p h => by
          obtain ⟨n, _, rfl⟩ := List.mem_map.mp h
          simp [nmT, Tm.dep]
        omega
    omega
  have nbl : ∀ n, ¬ Sub (.bd n) (.mk f ps) := fun n s => by
    cases s with
    | part hm s =>
      rcases hp _ hm with ⟨m, rfl⟩ | ⟨g, ns, rfl⟩
      · cases s
      · cases s with
        | part hm2 s =>
          obtain ⟨m, _, rfl⟩ := List.mem_map.mp hm2
          cases s
  rw [sat_seq]
  simp_arith [-sat_seq]
  rw [sat_seq]
  have ee := enc_mk f ps
  rw [ee]
  simp_arith [-sat_seq]
  refine forL_sat _ _ _ (fun i e h' => ∃ (y : AH) (n : Nat) (e3 : Option PV), e = [some (PV.tup [.str "made", .str f, .tup (ps.map Tm.enc)]), some r.enc, some (.ref n), e3, none] ∧ h' = h ++ y ∧ h.length ≤ n ∧ (h ++ y)[n]? = some (.lst ((nmsL (ps.take i)).map nmV))) ?turn ?fin _ 0 _ _ (Nat.add_zero _) ⟨[.lst []], h.length, none, rfl, rfl, Nat.le_refl _, by rw [List.getElem?_append_right (Nat.le_refl _)]; simp [nmsL]⟩
  case turn =>
    rintro i e hh hi ⟨y, n, e3, rfl, rfl, hn, en⟩
    have hi' : i < ps.length := by
      have z : i < (ps.map Tm.enc).length := hi
      rwa [List.length_map] at z
    have ta : ps.take (i + 1) = ps.take i ++ [ps[i]] := by rw [List.take_succ, List.getElem?_eq_getElem hi']; rfl
    have zi : (nmsL (ps.take (i + 1))).length ≤ 50 := by
      have := nmsL_app (ps.take (i + 1)) (ps.drop (i + 1))
      rw [List.take_append_drop] at this
      rw [this, List.length_append] at zn
      omega
    rw [ta, nmsL_app, List.length_append] at zi
    refine ⟨ps[i].enc, _, by show (ps.map Tm.enc)[i]? = _; rw [List.getElem?_map, List.getElem?_eq_getElem hi']; rfl, rfl, ?_⟩
    rcases hp _ (List.getElem_mem hi') with ⟨m, em⟩ | ⟨g, ns, em⟩
    · rw [em] at ta zi ⊢
      show SR.sat (_ : SR) _ _
      unfold nmT
      rw [enc_nm]
      simp_arith []
      refine ⟨isL_ref en, ?_⟩
      rw [append_ref en]
      refine ⟨⟨by simp only [List.length_map]; omega, okW_pure rfl⟩, ?_⟩
      have ny : n - h.length < y.length := by
        have := (List.getElem?_eq_some_iff.mp en).1
        rw [List.length_append] at this; omega
      rw [List.set_append_right _ _ hn]
      refine ⟨_, n, _, rfl, rfl, hn, ?_⟩
      rw [List.getElem?_append_right hn, List.getElem?_set_self ny, ta, nmsL_app, List.map_append]
      rfl
    · rw [em] at ta zi ⊢
      rw [enc_mk]
      simp_arith [s_mn, nmT_enc]
      have nm2 : nmsL [Tm.mk g (ns.map nmT)] = ns := by simp [nmsL, nmsOf_map]
      rw [nm2] at zi
      rw [sat_addRL true en]
      refine ⟨by simp only [List.length_map]; omega, ?_⟩
      simp_arith []
      refine ⟨y ++ [.lst ((nmsL (ps.take i)).map nmV ++ ns.map nmV)], (h ++ y).length, _, rfl, by simp, by simp, ?_⟩
      rw [← List.append_assoc, List.getElem?_append_right (Nat.le_refl _), ta, nmsL_app, nm2]
      simp
  case fin =>
    rintro e hh ⟨y, n, e3, rfl, rfl, hn, en⟩
    refine ⟨rfl, ?_⟩
    rw [show (itS (ps.map Tm.enc)).n = ps.length from List.length_map .., List.take_length] at en
    simp_arith []
    refine ⟨_, seqI_ref en, ?_⟩
    refine compL_it _ _ _ _ (nmsL ps) nmV (fun _ => true) (fun n => .str n.2) (by show ((nmsL ps).map nmV).length = _; simp) (itN_get en) (itN_fin en) (fun m hm => ?_) ?_
    · refine ⟨_, rfl, ⟨rfl, rfl⟩, fun _ => ?_⟩
      unfold nmV Tm.enc
      simp_arith []
    rw [filter_yes]
    have b1 := bound_eq 12 (.mk f ps) h.length (h ++ y) (.ref n) (NV.ref en) nbl (by omega) (by omega)
    have b2 := bound_eq 12 r h.length (h ++ y) (.ref n) (NV.ref en) nbr dr (by omega)
    rw [ee] at b1
    rw [eq_sat b1, eq_sat b2]
    have lw : PV.lowL h.length ((nmsL ps).map fun n => PV.str n.2) = true := low_map _ _ _ fun _ => rfl
    rw [popS_low (by simp [PV.low, PV.lowL, lw, low_dat _ (enc_dat _)]) (by simp)]
    refine ⟨?_, by simp⟩
    unfold ruleV
    rw [List.map_map]; rfl
end K72
end
section
set_option Elab.async false
set_option linter.all false
set_option maxRecDepth 100000
namespace K72
open PySem Mn
local macro_rules
  | `(tactic| simp_arith [$ls,*]) => `(tactic| simp only [sat_ok, sat_bad, sat_bind, sat_C, sat_nil, sat_cons, sat_var, sat_tup, sat_lst, sat_mkL, sat_op2, sat_opL, sat_call, sat_att, sat_meth, sat_tv, sat_and, sat_or, sat_not, sat_yes, sat_andV, sat_orV, sat_notV, sat_ifE, sat_seq, sat_dnx, sat_ret, sat_retN, sat_exp, sat_set, sat_if, sat_never, sat_unp, sat_lset, sat_dput, sat_fset, sat_aug, sat_for, sat_comp, sat_fI, sat_sub, sat_div, sat_mod, sat_addI, sat_mulI, sat_addL, sat_addT, sat_addS, sat_ix, sat_in, sat_is, sat_isnot, sat_len, sat_pow, sat_bm, sat_sl, sat_part, sat_nopart, sat_eq, sat_ne, sat_seqI, seqI_lst, seqI_tup, ix_tup, ix_lst, ix_scr, atI_0, atI_1, atI_2, atI_3, atI_4, dat_str, dat_int, dat_non, dat_nil, eq_str, eq_int, PV.isN, fnE, List.map_cons, List.map_nil, List.length_cons, List.length_nil, Nat.reduceAdd, Nat.reduceSub, List.reduceReplicate, List.cons_append, List.nil_append, List.append_nil, List.getElem?_cons_succ, List.getElem?_cons_zero, List.set_cons_succ, List.set_cons_zero, Option.some.injEq, PV.bl.injEq, PV.int.injEq, exists_eq_left', exists_eq_left, decide_eq_true_eq, Bool.not_eq_true', Nat.reduceLeDiff, true_and, and_true, Bool.false_eq_true, if_true, if_false, gt_iff_lt, ge_iff_le, reduceCtorEq, false_and, and_false, exists_false, Bool.not_true, Bool.not_false, sat_rng1, sat_rng2, sat_zip, sat_zipL, sat_listOf, sat_tupOf, sat_all, sat_any, sat_isi, sat_make, sat_dic0, seqOf_lst, seqOf_tup, lstOf_lst, lenP_lst, lenP_tup, srcP_lst, srcP_tup, tyP_str, tyP_tup, tyP_lst, tyP_int, tyP_non, Option.bind_some, cut_to, cut_from, cut_toT, cut_fromT, wipeE, $ls,*])
abbrev Rul := List Str × Tm × Tm
def ruV (r : Rul) : PV := ruleV r.1 r.2.1 r.2.2
structure RuleOk (ws : List Told) (r : Rul) : Prop where
  typ : ∃ k, Kd k ∧ Pk ws r.1 r.2.1 k ∧ Pk ws r.1 r.2.2 k
  len : r.1.length ≤ 8
  dl : r.2.1.dep ≤ 3
  dr : r.2.2.dep ≤ 3
  zl : r.2.1.size ≤ 13
  zr : r.2.2.size ≤ 13
  kds : ∀ k ∈ r.1, Kd k
def ruleOf (ps : List Tm) (l r : Tm) : Rul := ((nmsL ps).map (·.2), bnd (nmsL ps) l, bnd (nmsL ps) r)
theorem sizes_set : ∀ (ts : List Tm) (a : Nat) (u : Tm), Tm.sizes (ts.set a u) ≤ Tm.sizes ts + u.size
  | [], a, u => by simp [Tm.sizes]
  | t :: ts, 0, u => by simp only [List.set_cons_zero, Tm.sizes]; omega
  | t :: ts, a + 1, u => by simp only [List.set_cons_succ, Tm.sizes]; have := sizes_set ts a u; omega
theorem sizes_nm : ∀ ns : List Nm, Tm.sizes (ns.map nmT) = ns.length
  | [] => rfl
  | n :: ns => by simp only [List.map_cons, Tm.sizes, sizes_nm ns, List.length_cons, nmT, Tm.size]; omega
theorem nmsL_sizes : ∀ ts : List Tm, (∀ t ∈ ts, PartOk t) → (nmsL ts).length ≤ Tm.sizes ts
  | [], _ => Nat.le_refl _
  | t :: ts, h => by
    have ih := nmsL_sizes ts fun u hu => h u (List.mem_cons_of_mem _ hu)
    rcases h t List.mem_cons_self with ⟨n, rfl⟩ | ⟨g, ns, rfl⟩
    · simp only [nmT, nmsL, List.length_cons, Tm.sizes, Tm.size]; omega
    · simp only [nmsL, nmsOf_map, List.length_append, Tm.sizes, Tm.size, sizes_nm]; omega
theorem zip_snd {as : List Str} {tk : List Str} {i : Nat} {n : Nm} (h : (as.zip tk)[i]? = some n) : tk[i]? = some n.2 := (List.getElem?_zip_eq_some.mp h).2
theorem pk_nobd {ws : List Told} {t : Tm} {k : Str} (p : Pk ws [] t k) : ∀ n, ¬ Sub (.bd n) t := fun n s => by
  have := pk_bel p n s
  exact Nat.not_lt_zero _ this
theorem ruleOf_ok {ws : List Told} {f : Str} {ps : List Tm} {r : Tm} {k : Str} (kd : Kd k) (hp : ∀ p ∈ ps, PartOk p) (hk : ∀ n ∈ nmsL ps, Kd n.2) (zp : Tm.sizes ps ≤ 8) (dp : Tm.deps ps ≤ 2) (pl : Pk ws [] (.mk f ps) k) (pr : Pk ws [] r k) (dr : r.dep ≤ 3) (zr : r.size ≤ 13) : RuleOk ws (ruleOf ps (.mk f ps) r) where
  typ := ⟨k, kd, bnd_pk pl, bnd_pk pr⟩
  len := by have := nmsL_sizes ps hp; show ((nmsL ps).map _).length ≤ 8; rw [List.length_map]; omega
  dl := by show (bnd _ _).dep ≤ 3; rw [(bnd_dep _).1]; simp only [Tm.dep]; omega
  dr := by show (bnd _ _).dep ≤ 3; rw [(bnd_dep _).1]; exact dr
  zl := by show (bnd _ _).size ≤ 13; rw [(bnd_dep _).2]; simp only [Tm.size]; omega
  zr := by show (bnd _ _).size ≤ 13; rw [(bnd_dep _).2]; exact zr
  kds := fun k hk' => by
    obtain ⟨n, hn, rfl⟩ := List.mem_map.mp hk'
    exact hk n hn
def partsOf (w : Told) : Option (Nat × Str × List Str) → List Tm
  | none => (xs w.tk).map nmT
  | some (a, m) => ((xs w.tk).map nmT).set a (.mk m.1 ((ys m.2).map nmT))
theorem leftT_parts (w : Told) (mo) : leftT w mo = .mk w.f (partsOf w mo) := by cases mo <;> rfl
theorem nmsL_mem {ts : List Tm} {n : Nm} (h : n ∈ nmsL ts) : nmT n ∈ ts ∨ ∃ f ps, Tm.mk f ps ∈ ts ∧ nmT n ∈ ps := by
  induction ts with
  | nil => cases h
  | cons t ts ih =>
    have up : (nmT n ∈ ts ∨ ∃ f ps, Tm.mk f ps ∈ ts ∧ nmT n ∈ ps) → nmT n ∈ t :: ts ∨ ∃ f ps, Tm.mk f ps ∈ t :: ts ∧ nmT n ∈ ps := fun h => h.elim (fun h => .inl (List.mem_cons_of_mem _ h)) fun ⟨f, ps, a, b⟩ => .inr ⟨f, ps, List.mem_cons_of_mem _ a, b⟩
    cases t with
    | nm x k =>
      rcases List.mem_cons.mp h with rfl | h
      · exact .inl List.mem_cons_self
      · exact up (ih h)
    | bd i => exact up (ih h)
    | mk f ps =>
      rcases List.mem_append.mp h with h | h
      · exact .inr ⟨f, ps, List.mem_cons_self, nms_in h⟩
      · exact up (ih h)
theorem left_ok {ws : List Told} (W : WsOk ws) {w : Told} (hw : w ∈ ws) (hz : w.tk.length ≤ 3) (kd : ∀ t ∈ w.tk, Kd t) {mo : Option (Nat × Str × List Str)} (hm : ∀ a m, mo = some (a, m) → ∃ k, w.tk[a]? = some k ∧ K3 k ∧ m ∈ mks k) :
    (∀ p ∈ partsOf w mo, PartOk p) ∧ (∀ n ∈ nmsL (partsOf w mo), Kd n.2) ∧ Tm.sizes (partsOf w mo) ≤ 8 ∧ Tm.deps (partsOf w mo) ≤ 2 ∧ Pk ws [] (leftT w mo) w.gv := by
  have xl : (xs w.tk).length = w.tk.length := by unfold xs; rw [List.length_zip]; simp; omega
  have hs : (w.f, w.tk, w.gv) ∈ sigs ws := List.mem_append_right _ (List.mem_map.mpr ⟨w, hw, rfl⟩)
  cases mo with
  | none =>
    have hp : ∀ p ∈ (xs w.tk).map nmT, PartOk p := fun p hp => by
      obtain ⟨n, _, rfl⟩ := List.mem_map.mp hp
      exact .inl ⟨n, rfl⟩
    refine ⟨hp, fun n hn => ?_, ?_, ?_, ?_⟩
    · rcases nmsL_mem hn with h | ⟨f, ps, h, _⟩
      · obtain ⟨m, hm2, e⟩ := List.mem_map.mp h
        have : m = n := by simp only [nmT] at e; injection e with e1 e2; exact Prod.ext e1 e2
        rw [← this]; exact kd _ (xs_kinds hm2)
      · obtain ⟨m, hm2, e⟩ := List.mem_map.mp h
        cases e
    · show Tm.sizes ((xs w.tk).map nmT) ≤ 8; rw [sizes_nm]; omega
    · exact deps_le.mpr fun p hp => by
        obtain ⟨n, _, rfl⟩ := List.mem_map.mp hp
        simp [nmT, Tm.dep]
    · refine .mk hs (by rw [List.length_map, xl]) fun i p t e1 e2 => ?_
      rw [List.getElem?_map] at e1
      obtain ⟨n, e, rfl⟩ := Option.map_eq_some_iff.mp e1
      have := zip_snd e
      rw [e2] at this
      cases this
      exact .nm
  | some am =>
    obtain ⟨a, m⟩ := am
    obtain ⟨k, ha, k3, hmk⟩ := hm a m rfl
    obtain ⟨m1, m2, _⟩ := mks_K m hmk
    have yl : (ys m.2).length = m.2.length := by unfold ys; rw [List.length_zip]; simp; omega
    have mem : ∀ {p : Tm}, p ∈ partsOf w (some (a, m)) → (∃ n ∈ xs w.tk, p = nmT n) ∨ p = .mk m.1 ((ys m.2).map nmT) := fun {p} hp => by
      rcases List.mem_or_eq_of_mem_set hp with h | h
      · obtain ⟨n, hn, rfl⟩ := List.mem_map.mp h
        exact .inl ⟨n, hn, rfl⟩
      · exact .inr h
    have ms : (m.1, m.2, k) ∈ sigs ws := List.mem_append_left _ (sig0_mk (s := (m.1, m.2, k)) ⟨k3.kd, hmk⟩).1
    have pm : Pk ws [] (.mk m.1 ((ys m.2).map nmT)) k := by
      refine .mk ms (by rw [List.length_map, yl]) fun i p t e1 e2 => ?_
      rw [List.getElem?_map] at e1
      obtain ⟨n, e, rfl⟩ := Option.map_eq_some_iff.mp e1
      have := zip_snd e
      rw [e2] at this
      cases this
      exact .nm
    refine ⟨fun p hp => ?_, fun n hn => ?_, ?_, ?_, ?_⟩
    · rcases mem hp with ⟨n, _, rfl⟩ | rfl
      · exact .inl ⟨n, rfl⟩
      · exact .inr ⟨_, _, rfl⟩
    · rcases nmsL_mem hn with h | ⟨f, ps, h, h2⟩
      · rcases mem h with ⟨q, hq, e⟩ | e
        · have : n = q := by simp only [nmT] at e; injection e with e1 e2; exact Prod.ext e1 e2
          rw [this]; exact kd _ (xs_kinds hq)
        · cases e
      · rcases mem h with ⟨q, hq, e⟩ | e
        · cases e
        · cases e
          obtain ⟨q, hq, e⟩ := List.mem_map.mp h2
          have : q = n := by simp only [nmT] at e; injection e with e1 e2; exact Prod.ext e1 e2
          rw [← this]; exact (m2 _ (ys_kinds hq)).kd
    · have := sizes_set ((xs w.tk).map nmT) a (.mk m.1 ((ys m.2).map nmT))
      rw [sizes_nm] at this
      simp only [Tm.size, sizes_nm] at this
      show Tm.sizes (((xs w.tk).map nmT).set a _) ≤ 8
      omega
    · refine deps_le.mpr fun p hp => ?_
      rcases mem hp with ⟨n, _, rfl⟩ | rfl
      · simp [nmT, Tm.dep]
      · simp only [Tm.dep]
        have : Tm.deps ((ys m.2).map nmT) ≤ 1 := deps_le.mpr fun p hp => by
          obtain ⟨n, _, rfl⟩ := List.mem_map.mp hp
          simp [nmT, Tm.dep]
        omega
    · refine .mk hs (by rw [List.length_set, List.length_map, xl]) fun i p t e1 e2 => ?_
      by_cases z : a = i
      · subst z
        rw [List.getElem?_set_self (by rw [List.length_map, xl]; exact (List.getElem?_eq_some_iff.mp ha).1)] at e1
        cases e1
        rw [ha] at e2
        cases e2
        exact pm
      · rw [List.getElem?_set_ne z, List.getElem?_map] at e1
        obtain ⟨n, e, rfl⟩ := Option.map_eq_some_iff.mp e1
        have := zip_snd e
        rw [e2] at this
        cases this
        exact .nm
theorem wkR_pk {ws prev : List Told} {ns : List Nm} {o : Option Own} {t : Tm} {k : Str} (hp : ∀ w ∈ prev, w ∈ ws) (ho : ∀ w, o = some w → (w.f, w.tk, w.gv) ∈ sigs ws) (w : WkG ns (opn prev) o t k) : Pk ws [] t k := w.pk fun s h => by
  rcases h with h | ⟨w, hw, rfl⟩ | ⟨w, e, _, e2⟩
  · exact List.mem_append_left _ (sig0_mk h).1
  · exact List.mem_append_right _ (List.mem_map.mpr ⟨w, hp _ (opn_in hw).1, rfl⟩)
  · rw [e2]; exact ho w e
theorem rules_ok {ws : List Told} (W : WsOk ws) {w : Told} (hw : w ∈ ws) (b : Nat) (h : AH) : ∃ rs : List Rul, f__law_rules_of [w.enc] b h = .ok (.lst (rs.map ruV)) h ∧ (∀ r ∈ rs, RuleOk ws r) ∧ rs.length ≤ 2 := by
  obtain ⟨i, e⟩ := List.mem_iff_getElem?.mp hw
  have T := W.ok i w e
  have pre : ∀ v ∈ ws.take i, v ∈ ws := fun v hv => List.mem_of_mem_take hv
  have hs : (w.f, w.tk, w.gv) ∈ sigs ws := List.mem_append_right _ (List.mem_map.mpr ⟨w, hw, rfl⟩)
  have q := T.rs
  unfold RsOk at q
  have E : ∀ v, f__law_rules_of [w.enc] b h = .ok v h ↔ (f__law_rules_of [w.enc] b h).sat fun a k => a = v ∧ k = h := fun v => ⟨fun e => by rw [e]; exact ⟨rfl, rfl⟩, sat_eq_of⟩
  cases ha : w.at_ with
  | none =>
    rw [ha] at q
    have hr : ∀ t ∈ w.rs, Pk ws [] t w.gv ∧ t.dep ≤ 3 ∧ t.size ≤ 13 := fun t ht => by
      rcases q with h | ⟨u, h, hu, d, z⟩
      · have h' : w.rs = [] := h
        rw [h'] at ht; cases ht
      · have h' : w.rs = [u] := h
        rw [h'] at ht
        rw [List.mem_singleton.mp ht]
        exact ⟨wkR_pk pre (fun _ e => by cases e) hu, d, z⟩
    have hl : w.rs.length ≤ 1 := by
      rcases q with h | ⟨u, h, _⟩
      · have h' : w.rs = [] := h
        rw [h']; simp
      · have h' : w.rs = [u] := h
        rw [h']; simp
    obtain ⟨l1, l2, l3, l4, l5⟩ := left_ok (mo := none) W hw T.len T.kds (fun _ _ e => by cases e)
    refine ⟨w.rs.map fun t => ruleOf (partsOf w none) (leftT w none) t, (E _).mpr ?_, fun r hr' => ?_, by rw [List.length_map]; omega⟩
    · unfold f__law_rules_of
      rw [sat_fn]
      unfold d__law_rules_of
      rw [sat_seq]
      have ee : w.enc = .tup [.str w.f, .lst (w.tk.map .str), .str w.gv, .non, .lst (w.rs.map Tm.enc)] := by unfold Told.enc; rw [ha]; rfl
      simp_arith [-sat_seq]
      refine ⟨_, by rw [ee]; rfl, ?_⟩
      rw [sat_seq]
      simp_arith [-sat_seq]
      rw [sat_seq]
      simp_arith [-sat_seq]
      refine compL_typ _ _ _ w.rs Tm.enc (fun _ => true) (fun t => ruV (ruleOf (partsOf w none) (leftT w none) t)) (fun t ht => ?_) ?_
      · obtain ⟨p1, p2, p3⟩ := hr t ht
        refine ⟨_, rfl, ⟨rfl, rfl⟩, fun _ => ?_⟩
        have le := fun b h => left_eq (w := w) T.len (mo := none) (fun _ _ e => by cases e) b h
        rw [ee, leftT_parts] at le
        simp only [makV] at le
        simp_arith [eq_sat (le _ _)]
        rw [eq_sat (rule_eq l1 (pk_nobd p1) (by omega) (by have := nmsL_sizes _ l1; omega) (by have := len_sizes (partsOf w none); omega) _ _)]
        exact ⟨rfl, rfl⟩
      · rw [filter_yes]
        try simp_arith []
        rw [popS_same rfl]
        exact ⟨by rw [List.map_map]; rfl, rfl⟩
    · obtain ⟨t, ht, rfl⟩ := List.mem_map.mp hr'
      obtain ⟨p1, p2, p3⟩ := hr t ht
      rw [leftT_parts] at l5 ⊢
      exact ruleOf_ok T.kg l1 l2 l3 l4 l5 p1 p2 p3
  | some a =>
    rw [ha] at q
    obtain ⟨k, hk, hlr, hF⟩ := q
    have ⟨k1, k2⟩ : (∀ t ∈ w.tk, K3 t) ∧ K3 w.gv := by
      rcases T.kt with h | ⟨_, _, h⟩
      · exact h
      · rw [ha] at h; cases h
    have k3 : K3 k := k1 _ (List.mem_of_getElem? hk)
    have hat : a < w.tk.length := (List.getElem?_eq_some_iff.mp hk).1
    have lo : ∀ j (hj : j < (mks k).length), _ := fun j hj => left_ok (mo := some (a, (mks k)[j])) W hw T.len T.kds (fun a' m' e => by cases e; exact ⟨k, hk, k3, List.getElem_mem hj⟩)
    have ml := mks_len k
    let rl : Nat → Rul := fun j => ruleOf (partsOf w (some (a, (mks k).getD j ("", [])))) (leftT w (some (a, (mks k).getD j ("", [])))) (w.rs.getD j (.bd 0))
    refine ⟨(List.range w.rs.length).map rl, (E _).mpr ?_, fun r hr' => ?_, by rw [List.length_map, List.length_range]; omega⟩
    · unfold f__law_rules_of
      rw [sat_fn]
      unfold d__law_rules_of
      rw [sat_seq]
      have ee : w.enc = .tup [.str w.f, .lst (w.tk.map .str), .str w.gv, .int (a : Nat), .lst (w.rs.map Tm.enc)] := by unfold Told.enc; rw [ha]; rfl
      simp_arith [-sat_seq]
      refine ⟨_, by rw [ee]; rfl, ?_⟩
      rw [sat_seq]
      simp_arith [-sat_seq]
      rw [sat_seq]
      simp_arith [-sat_seq, atI_nat, List.getElem?_map, hk]
      refine ⟨_, rfl, ?_⟩
      rw [eq_sat (makers_eq k3.kd _ _), sat_seq]
      simp_arith [-sat_seq]
      refine ⟨_, rfl, ⟨by simp; omega, by simp⟩, ?_⟩
      refine compL_rg _ _ _ _ _ (fun _ => true) (fun j => ruV (rl j)) (fun j hj => ?_) ?_
      · have hj1 : j < w.rs.length := by simpa using hj
        have hj2 : j < (mks k).length := by omega
        obtain ⟨l1, l2, l3, l4, l5⟩ := lo j hj2
        obtain ⟨p1, p2, p3⟩ := hF j _ _ (List.getElem?_eq_getElem hj1) (List.getElem?_eq_getElem hj2)
        have p1' := wkR_pk pre (fun v e => by cases e; exact hs) p1
        refine ⟨_, rfl, ⟨rfl, rfl⟩, fun _ => ?_⟩
        have le := fun b h => left_eq (w := w) T.len (mo := some (a, (mks k)[j])) (fun a' m' e => by cases e; exact ⟨ha, hat, (mks_K _ (List.getElem_mem hj2)).1⟩) b h
        rw [ee, leftT_parts] at le
        simp only [makV] at le
        have g1 : ((mks k).map fun m => PV.tup [.str m.1, .lst (m.2.map .str)])[j]? = some (.tup [.str (mks k)[j].1, .lst ((mks k)[j].2.map .str)]) := by
          rw [List.getElem?_map, List.getElem?_eq_getElem hj2]; rfl
        have g2 : (w.rs.map Tm.enc)[j]? = some w.rs[j].enc := by rw [List.getElem?_map, List.getElem?_eq_getElem hj1]; rfl
        simp_arith [Int.zero_add, mksV, atI_nat, g1, g2, eq_sat (le _ _)]
        rw [eq_sat (rule_eq l1 (pk_nobd p1') (by omega) (by have := nmsL_sizes _ l1; omega) (by have := len_sizes (partsOf w (some (a, (mks k)[j]))); omega) _ _)]
        refine ⟨?_, rfl⟩
        simp only [rl, List.getD, List.getElem?_eq_getElem hj1, List.getElem?_eq_getElem hj2, Option.getD_some, leftT_parts]
        rfl
      · rw [filter_yes]
        rw [show (Int.toNat (((w.rs.map Tm.enc).length : Nat) : Int)) = w.rs.length by simp]
        try simp_arith []
        rw [popS_same rfl]
        exact ⟨by rw [List.map_map]; rfl, rfl⟩
    · obtain ⟨j, hj, rfl⟩ := List.mem_map.mp hr'
      have hj1 : j < w.rs.length := List.mem_range.mp hj
      have hj2 : j < (mks k).length := by omega
      obtain ⟨l1, l2, l3, l4, l5⟩ := lo j hj2
      obtain ⟨p1, p2, p3⟩ := hF j _ _ (List.getElem?_eq_getElem hj1) (List.getElem?_eq_getElem hj2)
      have p1' := wkR_pk pre (fun v e => by cases e; exact hs) p1
      simp only [rl, List.getD, List.getElem?_eq_getElem hj1, List.getElem?_eq_getElem hj2, Option.getD_some]
      rw [leftT_parts] at l5 ⊢
      exact ruleOf_ok T.kg l1 l2 l3 l4 l5 p1' p2 p3
end K72
end
section
set_option Elab.async false
set_option linter.all false
set_option maxRecDepth 100000
namespace K72
open PySem Mn
local macro_rules
  | `(tactic| simp_arith [$ls,*]) => `(tactic| simp only [sat_ok, sat_bad, sat_bind, sat_C, sat_nil, sat_cons, sat_var, sat_tup, sat_lst, sat_mkL, sat_op2, sat_opL, sat_call, sat_att, sat_meth, sat_tv, sat_and, sat_or, sat_not, sat_yes, sat_andV, sat_orV, sat_notV, sat_ifE, sat_seq, sat_dnx, sat_ret, sat_retN, sat_exp, sat_set, sat_if, sat_never, sat_unp, sat_lset, sat_dput, sat_fset, sat_aug, sat_for, sat_comp, sat_fI, sat_sub, sat_div, sat_mod, sat_addI, sat_mulI, sat_addL, sat_addT, sat_addS, sat_ix, sat_in, sat_is, sat_isnot, sat_len, sat_pow, sat_bm, sat_sl, sat_part, sat_nopart, sat_eq, sat_ne, sat_seqI, seqI_lst, seqI_tup, ix_tup, ix_lst, ix_scr, atI_0, atI_1, atI_2, atI_3, atI_4, dat_str, dat_int, dat_non, dat_nil, eq_str, eq_int, PV.isN, fnE, List.map_cons, List.map_nil, List.length_cons, List.length_nil, Nat.reduceAdd, Nat.reduceSub, List.reduceReplicate, List.cons_append, List.nil_append, List.append_nil, List.getElem?_cons_succ, List.getElem?_cons_zero, List.set_cons_succ, List.set_cons_zero, Option.some.injEq, PV.bl.injEq, PV.int.injEq, exists_eq_left', exists_eq_left, decide_eq_true_eq, Bool.not_eq_true', Nat.reduceLeDiff, true_and, and_true, Bool.false_eq_true, if_true, if_false, gt_iff_lt, ge_iff_le, reduceCtorEq, false_and, and_false, exists_false, Bool.not_true, Bool.not_false, sat_rng1, sat_rng2, sat_zip, sat_zipL, sat_listOf, sat_tupOf, sat_all, sat_any, sat_isi, sat_make, sat_dic0, seqOf_lst, seqOf_tup, lstOf_lst, lenP_lst, lenP_tup, srcP_lst, srcP_tup, tyP_str, tyP_tup, tyP_lst, tyP_int, tyP_non, Option.bind_some, cut_to, cut_from, cut_toT, cut_fromT, wipeE, $ls,*])
/-! ## what is given by what: the law's dict -/
theorem dSet_get : ∀ {ks : List L2.Key} {vs : List PV} {k k' : L2.Key} {v : PV}, ks.length = vs.length → dGetP ks (dSetP ks vs k v) k' = if k = k' then (dGetP ks vs k').map fun _ => v else dGetP ks vs k'
  | [], [], k, k', v, _ => by simp [dGetP, dSetP]
  | a :: ks, x :: vs, k, k', v, h => by
    have ih := dSet_get (ks := ks) (vs := vs) (k := k) (k' := k') (v := v) (by simpa using h)
    by_cases z : a = k
    · subst z
      by_cases z2 : a = k'
      · simp [dGetP, dSetP, z2]
      · simp [dGetP, dSetP, z2, ih]
    · by_cases z2 : a = k'
      · subst z2
        have : ¬ k = a := fun e => z e.symm
        simp [dGetP, dSetP, z, this]
      · simp [dGetP, dSetP, z, z2, ih]
theorem dSet_len : ∀ {ks : List L2.Key} {vs : List PV} {k : L2.Key} {v : PV}, ks.length = vs.length → (dSetP ks vs k v).length = vs.length
  | [], [], _, _, _ => rfl
  | a :: ks, x :: vs, k, v, h => by simp only [dSetP, List.length_cons]; rw [dSet_len (by simpa using h)]
theorem dSet_mem : ∀ {ks : List L2.Key} {vs : List PV} {k : L2.Key} {v y : PV}, ks.length = vs.length → y ∈ dSetP ks vs k v → y ∈ vs ∨ y = v
  | [], [], _, _, _, _, h => by cases h
  | a :: ks, x :: vs, k, v, y, e, h => by
    simp only [dSetP] at h
    rcases List.mem_cons.mp h with h | h
    · split at h
      · exact .inr h
      · rw [h]; exact .inl List.mem_cons_self
    · exact (dSet_mem (by simpa using e) h).imp (List.mem_cons_of_mem _) id
theorem dGet_app : ∀ {ks : List L2.Key} {vs : List PV} {k k' : L2.Key} {v : PV}, ks.length = vs.length → dGetP (ks ++ [k]) (vs ++ [v]) k' = match dGetP ks vs k' with
    | some x => some x
    | none => if k = k' then some v else none
  | [], [], k, k', v, _ => by simp [dGetP]
  | a :: ks, x :: vs, k, k', v, h => by
    have ih := dGet_app (ks := ks) (vs := vs) (k := k) (k' := k') (v := v) (by simpa using h)
    by_cases z : a = k'
    · simp [dGetP, z]
    · simp [dGetP, z, ih]
theorem get_has : ∀ {ks : List L2.Key} {vs : List PV} {k : L2.Key}, ks.length = vs.length → (dGetP ks vs k).isSome = hasK ks k
  | [], [], _, _ => rfl
  | a :: ks, x :: vs, k, h => by
    have ih := get_has (ks := ks) (vs := vs) (k := k) (by simpa using h)
    by_cases z : a = k
    · simp [dGetP, hasK, z]
    · simp only [dGetP, z, if_false, ih]
      simp [hasK, z]
structure GInv (ws : List Told) (ks : List L2.Key) (vs : List PV) (D : Sig → Prop) : Prop where
  len : ks.length = vs.length
  str : ∀ v ∈ vs, ∃ x : Str, v = .str x
  sub : ∀ s, D s → s ∈ sigs ws
  get : ∀ s, D s → dGetP ks vs (.inr s.1) = some (.str s.2.2)
theorem put_len {ks : List L2.Key} {vs : List PV} {k : L2.Key} {v : PV} (h : ks.length = vs.length) : (dPutK ks k).length = (dPutV ks vs k v).length := by
  unfold dPutK dPutV
  split
  · rw [dSet_len h, h]
  · simp [h]
theorem put_get {ks : List L2.Key} {vs : List PV} {k k' : L2.Key} {v : PV} (h : ks.length = vs.length) : dGetP (dPutK ks k) (dPutV ks vs k v) k' = if k = k' then some v else dGetP ks vs k' := by
  unfold dPutK dPutV
  by_cases z : hasK ks k = true
  · simp only [z, if_true]
    rw [dSet_get h]
    by_cases e : k = k'
    · subst e
      simp only [if_true]
      have := get_has (k := k) h
      rw [z] at this
      obtain ⟨x, hx⟩ := Option.isSome_iff_exists.mp this
      rw [hx]; rfl
    · simp only [e, if_false]
  · simp only [z, if_false, Bool.false_eq_true]
    rw [dGet_app h]
    by_cases e : k = k'
    · subst e
      have := get_has (k := k) h
      have z' : hasK ks k = false := by simpa using z
      rw [z'] at this
      have hn : dGetP ks vs k = none := by
        cases q : dGetP ks vs k with
        | none => rfl
        | some x => rw [q] at this; cases this
      rw [hn]
    · simp only [e, if_false]
      cases dGetP ks vs k' <;> rfl
theorem GInv.put {ws : List Told} (W : WsOk ws) {ks : List L2.Key} {vs : List PV} {D : Sig → Prop} (I : GInv ws ks vs D) {s : Sig} (hs : s ∈ sigs ws) : GInv ws (dPutK ks (.inr s.1)) (dPutV ks vs (.inr s.1) (.str s.2.2)) (fun t => t = s ∨ D t) where
  len := put_len I.len
  str := fun v hv => by
    unfold dPutV at hv
    split at hv
    · rcases dSet_mem I.len hv with h | h
      · exact I.str v h
      · exact ⟨_, h⟩
    · rcases List.mem_append.mp hv with h | h
      · exact I.str v h
      · exact ⟨_, List.mem_singleton.mp h⟩
  sub := fun t ht => ht.elim (fun e => by rw [e]; exact hs) (I.sub t)
  get := fun t ht => by
    rw [put_get I.len]
    by_cases e : s.1 = t.1
    · have hts : t ∈ sigs ws := ht.elim (fun e => by rw [e]; exact hs) (I.sub t)
      have := sig_unique W hs hts e
      subst this
      simp
    · have : ¬ ((.inr s.1 : L2.Key) = .inr t.1) := fun h => e (by simpa using h)
      rw [if_neg this]
      rcases ht with rfl | ht
      · exact absurd rfl e
      · exact I.get t ht
theorem GInv.imp {ws : List Told} {ks : List L2.Key} {vs : List PV} {D D' : Sig → Prop} (I : GInv ws ks vs D) (h : ∀ s, D' s → D s) : GInv ws ks vs D' := ⟨I.len, I.str, fun s hs => I.sub s (h s hs), fun s hs => I.get s (h s hs)⟩
theorem merge_inv {ws : List Told} (W : WsOk ws) : ∀ (ss : List Sig) (ks : List L2.Key) (vs : List PV) (D : Sig → Prop), (∀ s ∈ ss, s ∈ sigs ws) → GInv ws ks vs D → GInv ws (mergeP ks vs (ss.map fun s => (.inr s.1, .str s.2.2))).1 (mergeP ks vs (ss.map fun s => (.inr s.1, .str s.2.2))).2 (fun t => t ∈ ss ∨ D t)
  | [], ks, vs, D, _, I => I.imp fun s h => h.elim (fun h => by cases h) id
  | s :: ss, ks, vs, D, h, I => by
    have ih := merge_inv W ss _ _ _ (fun t ht => h t (List.mem_cons_of_mem _ ht)) (I.put W (h s List.mem_cons_self))
    refine ih.imp fun t ht => ?_
    rcases ht with ht | ht
    · rcases List.mem_cons.mp ht with e | ht
      · exact .inr (.inl e)
      · exact .inl ht
    · exact .inr (.inr ht)
theorem pairs_sig : ∀ ss : List Sig, (ss.map fun s => PV.tup [.str s.1, .str s.2.2]).mapM pairOf = some (ss.map fun s => ((.inr s.1 : L2.Key), PV.str s.2.2))
  | [] => rfl
  | s :: ss => by
    rw [List.map_cons, List.mapM_cons, pairs_sig ss]; rfl
theorem put_ref {h : AH} {n b : Nat} {ks : List L2.Key} {vs : List PV} {x : Str} {v : PV} (e : h[n]? = some (.dic ks vs)) (lo : v.low 0 = true) (hz : ks.length < 10000) : dputP b h (.ref n) (.str x) v = some (h.set n (.dic (dPutK ks (.inr x)) (dPutV ks vs (.inr x) v))) := by
  have c : (okW b n v && szOk (ks.length + 1)) = true := by
    rw [okW_pure lo, szOk_le.mpr (by omega)]; rfl
  unfold dputP
  simp only [e, keyOf, c, if_true]
theorem putK_len (ks : List L2.Key) (k : L2.Key) : (dPutK ks k).length ≤ ks.length + 1 := by
  unfold dPutK; split <;> simp
theorem merge_len : ∀ (ps : List (L2.Key × PV)) (ks : List L2.Key) (vs : List PV), (mergeP ks vs ps).1.length ≤ ks.length + ps.length
  | [], ks, vs => by simp [mergeP]
  | (k, v) :: ps, ks, vs => by
    have := merge_len ps (dPutK ks k) (dPutV ks vs k v)
    have := putK_len ks k
    simp only [mergeP, List.length_cons]
    omega
def kl : List Str := ["bit", "num", "row", "thing"]
theorem gives_law {ws : List Told} (W : WsOk ws) (b : Nat) (h : AH) : ∃ ks vs, f__law_gives [.lst (ws.map Told.enc)] b h = .ok (.dic ks vs) h ∧ ∀ s ∈ sigs ws, dGetP ks vs (.inr s.1) = some (.str s.2.2) := by
  have main : (f__law_gives [.lst (ws.map Told.enc)] b h).sat fun v h' => ∃ ks vs, v = .dic ks vs ∧ h' = h ∧ ∀ s ∈ sigs ws, dGetP ks vs (.inr s.1) = some (.str s.2.2) := by
    have six := W.len
    unfold f__law_gives
    rw [sat_fn]
    unfold d__law_gives
    rw [sat_seq]
    simp_arith [-sat_seq, eq_sat (makes_eq ws (by omega) _ _)]
    refine compL_typ _ _ _ (mk2 ++ ws.map Told.sig) sigV (fun _ => true) (fun s => .tup [.str s.1, .str s.2.2]) (fun s hs => ?_) ?_
    · refine ⟨_, rfl, ⟨rfl, rfl⟩, fun _ => ?_⟩
      unfold sigV
      simp_arith []
    rw [filter_yes]
    have I0 : GInv ws [] [] (fun _ => False) := ⟨rfl, fun v hv => (by cases hv), fun s hs => hs.elim, fun s hs => hs.elim⟩
    have hm : ∀ s ∈ mk2 ++ ws.map Told.sig, s ∈ sigs ws := fun s hs => by
      rcases List.mem_append.mp hs with h | h
      · refine List.mem_append_left _ ?_
        have e : ∀ s ∈ mk2, s ∈ mkSigs := by decide
        exact e s h
      · exact List.mem_append_right _ h
    have I1 := merge_inv W _ _ _ _ hm I0
    have de : ∀ b h, fDictOf true [.lst ((mk2 ++ ws.map Told.sig).map fun s => PV.tup [.str s.1, .str s.2.2])] b h = .ok (.ref h.length) (h ++ [.dic (mergeP [] [] ((mk2 ++ ws.map Told.sig).map fun s => (.inr s.1, .str s.2.2))).1 (mergeP [] [] ((mk2 ++ ws.map Told.sig).map fun s => (.inr s.1, .str s.2.2))).2]) := fun b h => by
      unfold fDictOf
      simp only [lstOf_lst, Option.bind_some, pairs_sig]
      rfl
    simp only [eq_sat (de _ _)]
    have zl := merge_len ((mk2 ++ ws.map Told.sig).map fun s => ((.inr s.1 : L2.Key), PV.str s.2.2)) [] []
    have zm : (mk2 ++ ws.map Told.sig).length ≤ 10 := by simp [mk2]; omega
    rw [List.length_map] at zl
    generalize (mergeP [] [] ((mk2 ++ ws.map Told.sig).map fun s => ((.inr s.1 : L2.Key), PV.str s.2.2))).1 = ks0 at I1 zl ⊢
    generalize (mergeP [] [] ((mk2 ++ ws.map Told.sig).map fun s => ((.inr s.1 : L2.Key), PV.str s.2.2))).2 = vs0 at I1 ⊢
    simp only [List.length_nil] at zl
    rw [sat_seq]
    simp_arith [-sat_seq, eq_sat (kinds_eq _ _)]
    refine ⟨_, rfl, ?_⟩
    refine forL_sat _ _ _ (fun i e h' => ∃ (ks : List L2.Key) (vs : List PV) (e2 e3 e4 e5 : Option PV), e = [some (PV.lst (List.map Told.enc ws)), some (PV.ref (List.length h)), e2, e3, e4, e5, none] ∧ h' = h ++ [.dic ks vs] ∧ ks.length ≤ 10 + 2 * i ∧ GInv ws ks vs (fun s => s ∈ mk2 ++ ws.map Told.sig ∨ ∃ k ∈ kl.take i, s.2.2 = k ∧ (s.1, s.2.1) ∈ mks k)) ?turn ?fin _ 0 _ _ (Nat.add_zero _) ⟨ks0, vs0, none, none, none, none, rfl, rfl, by omega, I1.imp fun s h => h.elim .inl fun ⟨k, hk, _⟩ => by cases hk⟩
    case turn =>
      rintro i e hh hi ⟨ks, vs, e2, e3, e4, e5, rfl, rfl, hz, I⟩
      have hi4 : i < 4 := hi
      have hk : Kd (kl.getD i "") := by
        rcases (by omega : i = 0 ∨ i = 1 ∨ i = 2 ∨ i = 3) with rfl | rfl | rfl | rfl <;> decide
      refine ⟨kv (kl.getD i "") (mks (kl.getD i "")), _, ?_, rfl, ?_⟩
      · rcases (by omega : i = 0 ∨ i = 1 ∨ i = 2 ∨ i = 3) with rfl | rfl | rfl | rfl <;> rfl
      have tk : kl.take (i + 1) = kl.take i ++ [kl.getD i ""] := by
        rcases (by omega : i = 0 ∨ i = 1 ∨ i = 2 ∨ i = 3) with rfl | rfl | rfl | rfl <;> rfl
      generalize kl.getD i "" = k at hk tk ⊢
      have ml := mks_len k
      rw [sat_seq]
      simp_arith [-sat_seq]
      refine forL_sat _ _ _ (fun j e h' => ∃ (ks : List L2.Key) (vs : List PV) (e4 e5 : Option PV), e = [some (PV.lst (List.map Told.enc ws)), some (PV.ref (List.length h)), some (.str k), some (.lst ((mks k).map fun m => .tup [.str m.1, .lst (m.2.map .str)])), e4, e5, none] ∧ h' = h ++ [.dic ks vs] ∧ ks.length ≤ 10 + 2 * i + j ∧ GInv ws ks vs (fun s => (s ∈ mk2 ++ ws.map Told.sig ∨ ∃ k ∈ kl.take i, s.2.2 = k ∧ (s.1, s.2.1) ∈ mks k) ∨ ∃ m ∈ (mks k).take j, s = (m.1, m.2, k))) ?turn2 ?fin2 _ 0 _ _ (Nat.add_zero _) ⟨ks, vs, e4, e5, rfl, rfl, by omega, I.imp fun s h => h.elim id fun ⟨m, hm, _⟩ => by cases hm⟩
      case turn2 =>
        rintro j e hh hj ⟨ks, vs, e4, e5, rfl, rfl, hz, I⟩
        have hj' : j < (mks k).length := by
          have z : j < ((mks k).map fun m => PV.tup [.str m.1, .lst (m.2.map .str)]).length := hj
          rwa [List.length_map] at z
        refine ⟨.tup [.str (mks k)[j].1, .lst ((mks k)[j].2.map .str)], _, ?_, rfl, ?_⟩
        · show (((mks k).map fun m => PV.tup [.str m.1, .lst (m.2.map .str)])[j]?) = _
          rw [List.getElem?_map, List.getElem?_eq_getElem hj']; rfl
        have el : (h ++ [AO.dic ks vs])[h.length]? = some (.dic ks vs) := by
          rw [List.getElem?_append_right (Nat.le_refl _)]; simp
        have hs : ((mks k)[j].1, (mks k)[j].2, k) ∈ sigs ws := List.mem_append_left _ (sig0_mk (s := ((mks k)[j].1, (mks k)[j].2, k)) ⟨hk, List.getElem_mem hj'⟩).1
        have ta : (mks k).take (j + 1) = (mks k).take j ++ [(mks k)[j]] := by rw [List.take_succ, List.getElem?_eq_getElem hj']; rfl
        have kz := putK_len ks (.inr (mks k)[j].1)
        simp_arith []
        refine ⟨_, put_ref el rfl (by omega), ?_⟩
        rw [List.set_append_right _ _ (Nat.le_refl _), Nat.sub_self, List.set_cons_zero]
        refine ⟨_, _, _, _, rfl, rfl, by omega, (I.put W hs).imp fun s h => ?_⟩
        rcases h with h | ⟨m, hm, e⟩
        · exact .inr (.inl h)
        · rw [ta] at hm
          rcases List.mem_append.mp hm with hm | hm
          · exact .inr (.inr ⟨m, hm, e⟩)
          · rw [List.mem_singleton.mp hm] at e; exact .inl e
      case fin2 =>
        rintro e hh ⟨ks, vs, e4, e5, rfl, rfl, hz, I⟩
        have nn : (itS ((mks k).map fun m => PV.tup [.str m.1, .lst (m.2.map .str)])).n = (mks k).length := List.length_map ..
        rw [nn, List.take_length] at I
        rw [nn] at hz
        refine ⟨rfl, ks, vs, _, _, _, _, rfl, rfl, by omega, I.imp fun s h => ?_⟩
        rcases h with h | ⟨k', hk', e, hm⟩
        · exact .inl (.inl h)
        · rw [tk] at hk'
          rcases List.mem_append.mp hk' with hk' | hk'
          · exact .inl (.inr ⟨k', hk', e, hm⟩)
          · have := List.mem_singleton.mp hk'
            subst this
            exact .inr ⟨_, hm, by rw [← e]⟩
    case fin =>
      rintro e hh ⟨ks, vs, e2, e3, e4, e5, rfl, rfl, hz, I⟩
      refine ⟨rfl, ?_⟩
      simp_arith []
      have el : (h ++ [AO.dic ks vs])[h.length]? = some (.dic ks vs) := by
        rw [List.getElem?_append_right (Nat.le_refl _)]; simp
      have lo : PV.lowL h.length vs = true := PV.lowL_iff.mpr fun x hx => by
        obtain ⟨y, rfl⟩ := I.str x hx
        rfl
      refine (popS_rz (by simp) (rz_dicR (f := 6) (Nat.le_refl _) el lo)).mpr ⟨ks, vs, rfl, by simp, fun s hs => I.get s ?_⟩
      rcases List.mem_append.mp hs with h | h
      · have e : ∀ s ∈ mkSigs, s.2.2 ∈ kl ∧ (s.1, s.2.1) ∈ mks s.2.2 := by decide
        obtain ⟨e1, e2⟩ := e s h
        exact .inr ⟨s.2.2, e1, rfl, e2⟩
      · exact .inl (List.mem_append_right _ h)
  cases e : f__law_gives [.lst (ws.map Told.enc)] b h with
  | ok v h' =>
    rw [e] at main
    obtain ⟨ks, vs, rfl, rfl, g⟩ := main
    exact ⟨ks, vs, rfl, g⟩
  | exc => rw [e] at main; exact main.elim
  | bad => rw [e] at main; exact main.elim
theorem law_kind_eq {ws : List Told} {ks : List Str} (W : WsOk ws) {t : Tm} {k : Str} (p : Pk ws ks t k) (nb : notBd t) (b : Nat) (h : AH) : f__law_kind_of [t.enc, .lst (ws.map Told.enc)] b h = .ok (.str k) h := by
  apply sat_eq_of
  unfold f__law_kind_of
  rw [sat_fn]
  unfold d__law_kind_of
  cases p with
  | nm =>
    rw [enc_nm]
    simp_arith []
    rw [popS_same rfl]
    exact ⟨rfl, rfl⟩
  | bd => exact nb.elim
  | mk hs hl ha =>
    rw [enc_mk]
    simp_arith [s_mn]
    obtain ⟨kk, vs, e, g⟩ := gives_law W h.length h
    rw [eq_sat e]
    refine ⟨_, g _ hs, ?_⟩
    rw [popS_same rfl]
    exact ⟨rfl, rfl⟩
end K72
end
section
set_option Elab.async false
set_option linter.all false
set_option maxRecDepth 100000
namespace K72
open PySem Mn
local macro_rules
  | `(tactic| simp_arith [$ls,*]) => `(tactic| simp only [sat_ok, sat_bad, sat_bind, sat_C, sat_nil, sat_cons, sat_var, sat_tup, sat_lst, sat_mkL, sat_op2, sat_opL, sat_call, sat_att, sat_meth, sat_tv, sat_and, sat_or, sat_not, sat_yes, sat_andV, sat_orV, sat_notV, sat_ifE, sat_seq, sat_dnx, sat_ret, sat_retN, sat_exp, sat_set, sat_if, sat_never, sat_unp, sat_lset, sat_dput, sat_fset, sat_aug, sat_for, sat_comp, sat_fI, sat_sub, sat_div, sat_mod, sat_addI, sat_mulI, sat_addL, sat_addT, sat_addS, sat_ix, sat_in, sat_is, sat_isnot, sat_len, sat_pow, sat_bm, sat_sl, sat_part, sat_nopart, sat_eq, sat_ne, sat_seqI, seqI_lst, seqI_tup, ix_tup, ix_lst, ix_scr, atI_0, atI_1, atI_2, atI_3, atI_4, dat_str, dat_int, dat_non, dat_nil, eq_str, eq_int, PV.isN, fnE, List.map_cons, List.map_nil, List.length_cons, List.length_nil, Nat.reduceAdd, Nat.reduceSub, List.reduceReplicate, List.cons_append, List.nil_append, List.append_nil, List.getElem?_cons_succ, List.getElem?_cons_zero, List.set_cons_succ, List.set_cons_zero, Option.some.injEq, PV.bl.injEq, PV.int.injEq, exists_eq_left', exists_eq_left, decide_eq_true_eq, Bool.not_eq_true', Nat.reduceLeDiff, true_and, and_true, Bool.false_eq_true, if_true, if_false, gt_iff_lt, ge_iff_le, reduceCtorEq, false_and, and_false, exists_false, Bool.not_true, Bool.not_false, sat_rng1, sat_rng2, sat_zip, sat_zipL, sat_listOf, sat_tupOf, sat_all, sat_any, sat_isi, sat_make, sat_dic0, seqOf_lst, seqOf_tup, lstOf_lst, lenP_lst, lenP_tup, srcP_lst, srcP_tup, tyP_str, tyP_tup, tyP_lst, tyP_int, tyP_non, Option.bind_some, cut_to, cut_from, cut_toT, cut_fromT, wipeE, $ls,*])
/-! ## drawn rules -/
def namesL : List Nm := [("a", "num"), ("b", "num"), ("a", "row"), ("c", "bit"), ("d", "thing")]
def slotsL : List Nm := [("sa", "num"), ("sb", "row"), ("sc", "num"), ("sd", "bit"), ("se", "thing")]
theorem names_eq (b : Nat) (h : AH) : f__law_names [] b h = .ok (.lst (namesL.map nmV)) h := by
  apply sat_eq_of
  unfold f__law_names
  rw [sat_fn]
  unfold d__law_names
  simp_arith []
  rw [popS_same rfl]
  exact ⟨rfl, rfl⟩
theorem slots_eq (b : Nat) (h : AH) : f__law_slots [] b h = .ok (.lst (slotsL.map nmV)) h := by
  apply sat_eq_of
  unfold f__law_slots
  rw [sat_fn]
  unfold d__law_slots
  simp_arith []
  rw [popS_same rfl]
  exact ⟨rfl, rfl⟩
theorem tmin_all {ws : List Told} (W : WsOk ws) {ns : List Nm} (hn : ns.length ≤ 50) (hk : ∀ n ∈ ns, Kd n.2) : TmIn ns ws none where
  nl := hn
  wl := by have := W.len; omega
  nk := hk
  kd := fun s h => sg_kd W (by
    rcases h with h | ⟨w, hw, e⟩ | ⟨w, e, _⟩
    · exact .inl h
    · exact .inr ⟨w, hw, e⟩
    · cases e)
  os := fun w e => by cases e
  ol := fun w e => by cases e
  oa := fun w e => by cases e
  on := fun w e => by cases e
def kindT (ws : List Told) : Tm → Str
  | .nm _ k => k
  | .mk f _ => (((sigs ws).find? fun s => decide ((Sum.inr s.1 : L2.Key) = .inr f)).map (·.2.2)).getD ""
  | .bd _ => ""
theorem kindT_eq {ws : List Told} {ks : List Str} (W : WsOk ws) {t : Tm} {k : Str} (p : Pk ws ks t k) (nb : notBd t) : kindT ws t = k := by
  cases p with
  | nm => rfl
  | bd => exact nb.elim
  | mk hs hl ha => rw [kindT, find_name W.nd hs]; rfl
theorem closed_sub {ws : List Told} {t u : Tm} {k : Str} (p : Pk ws [] t k) (s : Sub u t) : ∃ k', Pk ws [] u k' ∧ notBd u := by
  obtain ⟨k', q⟩ := pk_sub p s
  exact ⟨k', q, pk_closed q⟩
theorem ruV_dat (r : Rul) : (ruV r).dat = true := by
  have : PV.dats (r.1.map PV.str) = true := PV.dats_iff.mpr fun x hx => by
    obtain ⟨s, _, rfl⟩ := List.mem_map.mp hx
    rfl
  simp [ruV, ruleV, PV.dat, PV.dats, this, enc_dat]
theorem dat_rules {ws : List Told} {h : AH} {rs : List Rul} (ok : ∀ r ∈ rs, RuleOk ws r) : datOf h (.lst (rs.map ruV)) = some (.lst (rs.map ruV)) := by
  refine datOf_of (PV.dats_iff.mpr fun x hx => by
    obtain ⟨r, _, rfl⟩ := List.mem_map.mp hx
    exact ruV_dat r) ?_
  have : PyData.depthAll (PV.toDs (rs.map ruV)) ≤ 20 := depthAll_le fun x hx => by
    obtain ⟨r, hr, rfl⟩ := List.mem_map.mp hx
    have R := ok r hr
    have e1 := enc_depth r.2.1
    have e2 := enc_depth r.2.2
    have d1 := R.dl
    have d2 := R.dr
    have e3 : PyData.depthAll (PV.toDs (r.1.map PV.str)) ≤ 1 := depthAll_le fun x hx => by
      obtain ⟨s, _, rfl⟩ := List.mem_map.mp hx
      simp [PV.toD, PyData.depth]
    simp only [ruV, ruleV, PV.toD, PV.toDs, PyData.depth, PyData.depthAll]
    omega
  simp only [PV.toD, PyData.depth]; omega
def t_drawn : Ds := (dSeq (dSet 4 (dCall f__law_slots 0 [] dNil))
  (dSeq (dSet 5 (dCall f__law_makes 1 [] (dCons (dVar 1) dNil)))
  (dSeq (dUnp (gT 3 (gC (gNm 6) (gC (gNm 7) (gC (gNm 8) gN)))) (dOp2 fIx (dVar 5) (dCall f__law_take 2 [] (dCons (dVar 0) (dCons (dOpL fLen (dCons (dVar 5) dNil)) dNil)))))
  (dSeq (dSet 9 (dTup (dCons (dC (.str "made")) (dCons (dVar 6) (dCons (dOpL fTupOf (dCons (dComp false [13] (dSeqI (dVar 7)) (gNm 13) dYes (dCall (f__law_term 6) 6 [.non] (dCons (dVar 0) (dCons (dVar 13) (dCons (dOp2 (fAdd false) (dSl false (dCall f__law_names 0 [] dNil) dNoPart (dPart (dC (.int 2)))) (dVar 4)) (dCons (dVar 1) (dCons (dC (.int 1)) dNil))))))) dNil)) dNil)))))
  (dSeq (dSet 10 (dComp false [12] (dSeqI (dSl false (dCall (f__law_all_parts 12) 1 [] (dCons (dVar 9) dNil)) (dPart (dC (.int 1))) dNoPart)) (gNm 12) (dTv (dOp2 fEq (dCall f__law_kind_of 2 [] (dCons (dVar 12) (dCons (dVar 1) dNil))) (dVar 8))) (dVar 12)))
  (dSeq (dIf (dTv (dOp2 fEq (dVar 10) (dLst false dNil))) (dSeq (dSet 10 (dCall f__law_atoms 2 [] (dCons (dVar 8) (dCons (dLst false dNil) dNil))))
  dNx) dNx)
  (dSeq (dSet 11 (dOp2 fIx (dVar 10) (dCall f__law_take 2 [] (dCons (dVar 0) (dCons (dOpL fLen (dCons (dVar 10) dNil)) dNil)))))
  (dSeq (dRet (dTup (dCons (dOpL fTupOf (dCons (dComp false [14] (dSeqI (dVar 4)) (gNm 14) dYes (dOp2 fIx (dVar 14) (dC (.int 2)))) dNil)) (dCons (dCall (f__law_bound 12) 2 [] (dCons (dVar 9) (dCons (dVar 4) dNil))) (dCons (dCall (f__law_bound 12) 2 [] (dCons (dVar 11) (dCons (dVar 4) dNil))) dNil)))))
  dNx))))))))
/-- terms drawn, one for each kind -/
theorem terms_ok {ws : List Told} (W : WsOk ws) {ns : List Nm} (T : TmIn ns ws none) {r n : Nat} (hn : n < 6) {tk : List Str} (kk : ∀ t ∈ tk, Kd t) {a c : Int} {b : Nat} {h : AH} (hr : r < h.length) (ha : 0 ≤ a) (hc : 0 ≤ c) {elt : Dn PV} {g : Dg} {env : EnvP} {L : List PV → AH → Prop}
    (he : ∀ (k : Str) (a c : Int), 0 ≤ a → 0 ≤ c → k ∈ tk → ∃ env1, g (.str k) env (h.set r (src a c)) = some env1 ∧ ∀ Q, (f__law_term 6 [.ref r, .str k, .lst (ns.map nmV), .lst (ws.map Told.enc), .int n, .non] b (h.set r (src a c))).sat Q → (elt env1 b (h.set r (src a c))).sat Q)
    (fin : ∀ (ts : List Tm) (a c : Int), ts.length = tk.length → (∀ (i : Nat) (p : Tm) (t : Str), ts[i]? = some p → tk[i]? = some t → Pk ws [] p t) → Tm.deps ts ≤ n + 1 → Tm.sizes ts ≤ tk.length * sz n → 0 ≤ a → 0 ≤ c → L (ts.map Tm.enc) (h.set r (src a c))) :
    (dCompL g dYes elt (itS (tk.map PV.str)) (itS (tk.map PV.str)).n 0 env b (h.set r (src a c)) []).sat L := by
  refine compL_sat _ _ _ _ (fun i acc h' => ∃ (ts : List Tm) (a c : Int), acc = ts.map Tm.enc ∧ ts.length = i ∧ (∀ (q : Nat) (p : Tm) (t : Str), ts[q]? = some p → tk[q]? = some t → Pk ws [] p t) ∧ Tm.deps ts ≤ n + 1 ∧ Tm.sizes ts ≤ i * sz n ∧ 0 ≤ a ∧ 0 ≤ c ∧ h' = h.set r (src a c)) ?turn ?fin _ 0 [] _ (Nat.add_zero _) ⟨[], a, c, rfl, rfl, fun q p t e => by simp at e, by simp [Tm.deps], by simp [Tm.sizes], ha, hc, rfl⟩
  case turn =>
    rintro i acc h' hi ⟨ts, a1, c1, rfl, hl, hp, hd, hs, ha1, hc1, rfl⟩
    have hi' : i < tk.length := by
      have z : i < (tk.map PV.str).length := hi
      rwa [List.length_map] at z
    obtain ⟨env1, g1, q1⟩ := he tk[i] a1 c1 ha1 hc1 (List.getElem_mem hi')
    refine ⟨.str tk[i], env1, by show (tk.map PV.str)[i]? = _; rw [List.getElem?_map, List.getElem?_eq_getElem hi']; rfl, g1, ?_⟩
    simp_arith []
    refine q1 _ ((term_ok T 6 n tk[i] a1 c1 b _ hn (kk _ (List.getElem_mem hi')) (List.getElem?_set_self hr) ha1 hc1).mono ?_)
    rintro v h3 ⟨t, a2, c2, rfl, w1, w2, w3, ha2, hc2, rfl⟩
    refine ⟨ts ++ [t], a2, c2, by simp, by simp [hl], fun q p k e1 e2 => ?_, ?_, ?_, ha2, hc2, List.set_set ..⟩
    · rcases Nat.lt_trichotomy q i with z | z | z
      · rw [List.getElem?_append_left (by omega)] at e1
        exact hp q p k e1 e2
      · subst z
        rw [List.getElem?_append_right (by omega), hl, Nat.sub_self] at e1
        cases e1
        rw [List.getElem?_eq_getElem hi'] at e2
        cases e2
        exact wkg_pk w1
      · rw [List.getElem?_eq_none (by simp; omega)] at e1; cases e1
    · refine deps_le.mpr fun u hu => ?_
      rcases List.mem_append.mp hu with z | z
      · exact deps_le.mp hd u z
      · rw [List.mem_singleton.mp z]; exact w2
    · rw [sizes_app, Nat.add_mul, Nat.one_mul]; omega
  case fin =>
    rintro acc h' ⟨ts, a1, c1, rfl, hl, hp, hd, hs, ha1, hc1, rfl⟩
    have nn : (itS (tk.map PV.str)).n = tk.length := List.length_map ..
    rw [nn] at hl hs
    exact ⟨rfl, fin ts a1 c1 hl hp hd hs ha1 hc1⟩
theorem drawn_split : d__law_drawn_rule = dSeq (dSet 2 (dLst false dNil)) (dSeq (dFor (dSeqI (dVar 1)) (gNm 3) (dSeq (dSet 2 (dOp2 (fAdd false) (dVar 2) (dCall f__law_rules_of 1 [] (dCons (dVar 3) dNil)))) dNx))
  (dSeq (dIf (dAnd (dTv (dOp2 fNe (dVar 2) (dLst false dNil))) (dTv (dOp2 fEq (dCall f__law_take 2 [] (dCons (dVar 0) (dCons (dC (.int 3)) dNil))) (dC (.int 0))))) (dSeq (dRet (dOp2 fIx (dVar 2) (dCall f__law_take 2 [] (dCons (dVar 0) (dCons (dOpL fLen (dCons (dVar 2) dNil)) dNil))))) dNx) dNx) t_drawn)) := rfl
theorem sub_size {u t : Tm} (s : Sub u t) : u.size ≤ t.size := by
  induction s with
  | refl => exact Nat.le_refl _
  | @part p f ps hp _ ih =>
    obtain ⟨i, e⟩ := List.mem_iff_getElem?.mp hp
    have hi := (List.getElem?_eq_some_iff.mp e).1
    have := sizes_cat (ps.take i) (ps.drop i)
    rw [List.take_append_drop, List.drop_eq_getElem_cons hi] at this
    have e2 : ps[i] = p := (List.getElem?_eq_some_iff.mp e).2
    simp only [Tm.sizes, e2] at this
    simp only [Tm.size]; omega
def t_drawn3 : Ds := (dSeq (dSet 11 (dOp2 fIx (dVar 10) (dCall f__law_take 2 [] (dCons (dVar 0) (dCons (dOpL fLen (dCons (dVar 10) dNil)) dNil)))))
  (dSeq (dRet (dTup (dCons (dOpL fTupOf (dCons (dComp false [14] (dSeqI (dVar 4)) (gNm 14) dYes (dOp2 fIx (dVar 14) (dC (.int 2)))) dNil)) (dCons (dCall (f__law_bound 12) 2 [] (dCons (dVar 9) (dCons (dVar 4) dNil))) (dCons (dCall (f__law_bound 12) 2 [] (dCons (dVar 11) (dCons (dVar 4) dNil))) dNil)))))
  dNx))
theorem drawn3_ok {ws : List Told} (W : WsOk ws) {r : Nat} {a c : Int} {h0 : AH} {f gv : Str} {ts P : List Tm} (hr : r < h0.length) (ha : 0 ≤ a) (hc : 0 ≤ c) (kg : Kd gv) (L : Pk ws [] (.mk f ts) gv) (Ld : (Tm.mk f ts).dep ≤ 3) (Lz : (Tm.mk f ts).size ≤ 13) (hne : P ≠ []) (hz : P.length ≤ 50) (hP : ∀ u ∈ P, Pk ws [] u gv ∧ u.dep ≤ 3 ∧ u.size ≤ 13) {v1 e2 e3 v5 v6 v7 v8 : Option PV} :
    (t_drawn3 [some (.ref r), v1, e2, e3, some (.lst (slotsL.map nmV)), v5, v6, v7, v8, some (Tm.mk f ts).enc, some (.lst (P.map Tm.enc)), none, none, none, none] h0.length (h0.set r (src a c))).sat (fun _ _ => False) fun v h' => ∃ rl a' c', v = ruV rl ∧ RuleOk ws rl ∧ 0 ≤ a' ∧ 0 ≤ c' ∧ h' = h0.set r (src a' c') := by
  have er : ∀ x : AO, (h0.set r x)[r]? = some x := fun x => List.getElem?_set_self hr
  have ss : ∀ x y : AO, (h0.set r x).set r y = h0.set r y := fun x y => List.set_set ..
  have pz : 0 < P.length := List.length_pos_iff.mpr hne
  unfold t_drawn3
  rw [sat_seq]
  simp_arith [-sat_seq]
  refine (take_ok (er _) (by simp only [List.length_map]; omega) (by simp only [List.length_map]; omega) ha hc).mono ?_
  rintro v h1 ⟨d, a1, c1, rfl, d0, d1, ha1, hc1, rfl⟩
  obtain ⟨d, rfl⟩ : ∃ q : Nat, d = q := ⟨d.toNat, by omega⟩
  have hd : d < P.length := by simp only [List.length_map] at d1; omega
  obtain ⟨p1, p2, p3⟩ := hP _ (List.getElem_mem hd)
  refine ⟨P[d].enc, by rw [ix_lst, atI_nat, List.getElem?_map, List.getElem?_eq_getElem hd]; rfl, ?_⟩
  rw [ss, sat_seq]
  simp_arith [-sat_seq]
  refine compL_typ _ _ _ slotsL nmV (fun _ => true) (fun n => .str n.2) (fun n hn => ?_) ?_
  · refine ⟨_, rfl, ⟨rfl, rfl⟩, fun _ => ?_⟩
    unfold nmV Tm.enc
    simp_arith []
  rw [filter_yes]
  have b1 := bound_eq 12 (.mk f ts) h0.length (h0.set r (src a1 c1)) _ (NV.lst _ slotsL) (pk_nobd L) (by omega) (by omega)
  have b2 := bound_eq 12 P[d] h0.length (h0.set r (src a1 c1)) _ (NV.lst _ slotsL) (pk_nobd p1) (by omega) (by omega)
  simp_arith [eq_sat b1, eq_sat b2]
  refine ⟨(slotsL.map (·.2), bnd slotsL (.mk f ts), bnd slotsL P[d]), a1, c1, ?_, ⟨⟨gv, kg, bnd_pk L, bnd_pk p1⟩, (by decide : (slotsL.map (·.2)).length ≤ 8), ?_, ?_, ?_, ?_, (by decide : ∀ k ∈ slotsL.map (·.2), Kd k)⟩, ha1, hc1, rfl⟩
  · unfold ruV ruleV
    rw [List.map_map]; rfl
  · rw [(bnd_dep _).1]; exact Ld
  · rw [(bnd_dep _).1]; exact p2
  · rw [(bnd_dep _).2]; exact Lz
  · rw [(bnd_dep _).2]; exact p3
theorem drawn2_ok {ws : List Told} (W : WsOk ws) {r : Nat} {a c : Int} {b : Nat} {h : AH} (e : h[r]? = some (src a c)) (ha : 0 ≤ a) (hc : 0 ≤ c) {e2 e3 : Option PV} :
    (t_drawn [some (.ref r), some (.lst (ws.map Told.enc)), e2, e3, none, none, none, none, none, none, none, none, none, none, none] h.length h).sat (fun _ _ => False) fun v h' => ∃ rl a' c', v = ruV rl ∧ RuleOk ws rl ∧ 0 ≤ a' ∧ 0 ≤ c' ∧ h' = h.set r (src a' c') := by
  have hr : r < h.length := (List.getElem?_eq_some_iff.mp e).1
  have er : ∀ x : AO, (h.set r x)[r]? = some x := fun x => List.getElem?_set_self hr
  have ss : ∀ x y : AO, (h.set r x).set r y = h.set r y := fun x y => List.set_set ..
  have six := W.len
  unfold t_drawn
  rw [sat_seq]
  simp_arith [-sat_seq, eq_sat (slots_eq _ _)]
  rw [sat_seq]
  simp_arith [-sat_seq, eq_sat (makes_eq ws (by omega) _ _)]
  rw [sat_seq]
  simp_arith [-sat_seq]
  have zm : (mk2 ++ ws.map Told.sig).length ≤ 10 ∧ 2 ≤ (mk2 ++ ws.map Told.sig).length := by simp [mk2]; omega
  refine (take_ok e (by simp only [List.length_map]; omega) (by simp only [List.length_map]; omega) ha hc).mono ?_
  rintro v h1 ⟨d, a1, c1, rfl, d0, d1, ha1, hc1, rfl⟩
  obtain ⟨d, rfl⟩ : ∃ q : Nat, d = q := ⟨d.toNat, by omega⟩
  have hd : d < (mk2 ++ ws.map Told.sig).length := by simp only [List.length_map] at d1; omega
  have hsm := List.getElem_mem hd
  have hsg : ∀ s ∈ mk2 ++ ws.map Told.sig, s ∈ sigs ws := fun s hs => by
    rcases List.mem_append.mp hs with h | h
    · refine List.mem_append_left _ ?_
      have e : ∀ s ∈ mk2, s ∈ mkSigs := by decide
      exact e s h
    · exact List.mem_append_right _ h
  refine ⟨sigV (mk2 ++ ws.map Told.sig)[d], by rw [ix_lst, atI_nat, List.getElem?_map, List.getElem?_eq_getElem hd]; rfl, ?_⟩
  have hs := hsg _ hsm
  generalize (mk2 ++ ws.map Told.sig)[d] = s at hs hsm ⊢
  obtain ⟨f, tk, gv⟩ := s
  have hkd : tk.length ≤ 3 ∧ Kd gv ∧ ∀ t ∈ tk, Kd t := sg_kd W (s := (f, tk, gv)) (by
    rcases List.mem_append.mp hs with h | h
    · have e : ∀ s ∈ mkSigs, Kd s.2.2 ∧ (s.1, s.2.1) ∈ mks s.2.2 := by decide
      exact .inl (e _ h)
    · obtain ⟨w, hw, e⟩ := List.mem_map.mp h
      exact .inr ⟨w, hw, e⟩)
  obtain ⟨tz, kg, kk⟩ := hkd
  refine ⟨_, rfl, ?_⟩
  rw [sat_seq]
  simp_arith [-sat_seq]
  let ns := namesL.take 2 ++ slotsL
  have T : TmIn ns ws none := tmin_all W (by decide) (by decide)
  refine terms_ok W T (n := 1) (by decide) kk hr ha1 hc1 (fun k a2 c2 ha2 hc2 hk => ⟨_, rfl, fun Q q => ?_⟩) (fun ts a2 c2 hl hp hdp hsz ha2 hc2 => ?_)
  · simp_arith [eq_sat (names_eq _ _)]
    have ct : ∀ h : AH, cutP false h (.lst (namesL.map nmV)) none (some 2) = .ok (.lst ((namesL.take 2).map nmV)) h := fun h => rfl
    simp only [ct]
    simp_arith []
    refine ⟨by decide, ?_⟩
    have : (namesL.take 2).map nmV ++ slotsL.map nmV = ns.map nmV := rfl
    rw [this]
    exact q
  · have hsz' : Tm.sizes ts ≤ 12 := by
      have : sz 1 = 4 := rfl
      rw [this] at hsz
      omega
    have L := Pk.mk (ks := []) hs hl hp
    have Ld : (Tm.mk f ts).dep ≤ 3 := by simp only [Tm.dep]; omega
    have Lz : (Tm.mk f ts).size ≤ 13 := by simp only [Tm.size]; omega
    try simp_arith [-sat_seq]
    rw [sat_seq]
    have ee := enc_mk f ts
    rw [← ee]
    simp_arith [-sat_seq, eq_sat (all_parts_eq 12 (.mk f ts) _ _ (by omega) (by omega))]
    rw [show (1 : Int) = ((1 : Nat) : Int) from rfl, cut_from, ← List.map_drop]
    simp_arith [-sat_seq]
    have subs : ∀ u ∈ (allP (.mk f ts)).drop 1, Sub u (.mk f ts) := fun u hu => allP_sub _ u (List.mem_of_mem_drop hu)
    refine compL_typ _ _ _ ((allP (.mk f ts)).drop 1) Tm.enc (fun u => decide (kindT ws u = gv)) Tm.enc (fun u hu => ?_) ?_
    · obtain ⟨k', pu, nb⟩ := closed_sub L (subs u hu)
      refine ⟨_, rfl, ?_, fun _ => ?_⟩
      · simp_arith [eq_sat (law_kind_eq W pu nb _ _), kindT_eq W pu nb]
      · simp_arith []
    · generalize hP : ((allP (.mk f ts)).drop 1).filter (fun u => decide (kindT ws u = gv)) = P
      have hPm : ∀ u ∈ P, Pk ws [] u gv ∧ u.dep ≤ 3 ∧ u.size ≤ 13 := fun u hu => by
        rw [← hP] at hu
        obtain ⟨h1, h2⟩ := List.mem_filter.mp hu
        obtain ⟨k', pu, nb⟩ := closed_sub L (subs u h1)
        have : kindT ws u = gv := by simpa using h2
        rw [kindT_eq W pu nb] at this
        rw [← this]
        refine ⟨pu, Nat.le_trans (sub_dep (subs u h1)) Ld, ?_⟩
        have := sub_size (subs u h1)
        omega
      have Pz : P.length ≤ 13 := by
        have h1 := allP_len (.mk f ts)
        have h2 := List.length_filter_le (fun u => decide (kindT ws u = gv)) ((allP (.mk f ts)).drop 1)
        rw [hP, List.length_drop] at h2
        omega
      rw [sat_seq]
      simp_arith [-sat_seq, dat_tms (deps_le.mpr fun u hu => Nat.le_trans (hPm u hu).2.1 (by decide)), lst_eq_nil, List.map_eq_nil_iff]
      by_cases z : P = []
      · simp only [z, if_true]
        rw [sat_seq]
        have ae : ∀ b h, f__law_atoms [.str gv, .lst []] b h = .ok (.lst ((atoms gv []).map Tm.enc)) h := fun b h => atoms_eq kg [] (by decide) b h
        simp_arith [-sat_seq, eq_sat (ae _ _)]
        have T0 : TmIn [] ws none := tmin_all W (by decide) (fun n hn => by cases hn)
        refine drawn3_ok W hr ha2 hc2 kg L Ld Lz (atoms_ne gv []) (by have := atoms_len gv []; simp at this; omega) fun u hu => ?_
        obtain ⟨w1, w2, w3⟩ := atoms_wk T0 kg u hu
        exact ⟨wkg_pk w1, by omega, by omega⟩
      · simp only [z, if_false]
        exact drawn3_ok W hr ha2 hc2 kg L Ld Lz z (by omega) hPm
theorem drawn_ok {ws : List Told} (W : WsOk ws) {r : Nat} {a c : Int} {b : Nat} {h : AH} (e : h[r]? = some (src a c)) (ha : 0 ≤ a) (hc : 0 ≤ c) :
    (f__law_drawn_rule [.ref r, .lst (ws.map Told.enc)] b h).sat fun v h' => ∃ rl a' c', v = ruV rl ∧ RuleOk ws rl ∧ 0 ≤ a' ∧ 0 ≤ c' ∧ h' = h.set r (src a' c') := by
  have hr : r < h.length := (List.getElem?_eq_some_iff.mp e).1
  have er : ∀ x : AO, (h.set r x)[r]? = some x := fun x => List.getElem?_set_self hr
  have ss : ∀ x y : AO, (h.set r x).set r y = h.set r y := fun x y => List.set_set ..
  have six := W.len
  have low : ∀ (rl : Rul) (n : Nat), (ruV rl).low n = true := fun rl n => low_dat _ (ruV_dat rl) n
  have fin : ∀ {e2 e3 : Option PV} (a c : Int), 0 ≤ a → 0 ≤ c → ∀ h1 : AH, h1.length = h.length → h1[r]? = some (src a c) → (∀ x, h1.set r x = h.set r x) → (t_drawn [some (.ref r), some (.lst (ws.map Told.enc)), e2, e3, none, none, none, none, none, none, none, none, none, none, none] h.length h1).sat (fun _ h1 => PopS h.length .non h1 fun v h' => ∃ rl a' c', v = ruV rl ∧ RuleOk ws rl ∧ 0 ≤ a' ∧ 0 ≤ c' ∧ h' = h.set r (src a' c')) fun v h1 => PopS h.length v h1 fun v h' => ∃ rl a' c', v = ruV rl ∧ RuleOk ws rl ∧ 0 ≤ a' ∧ 0 ≤ c' ∧ h' = h.set r (src a' c') := by
    intro e2 e3 a c ha hc h1 hl e1 hs
    have := drawn2_ok (b := h.length) W e1 ha hc (e2 := e2) (e3 := e3)
    rw [hl] at this
    refine SR.sat.mono this (fun _ _ h => h.elim) ?_
    rintro v h2 ⟨rl, a', c', rfl, R, ha', hc', rfl⟩
    rw [popS_same (by simp [hl])]
    exact ⟨rl, a', c', rfl, R, ha', hc', hs _⟩
  unfold f__law_drawn_rule
  rw [sat_fn, drawn_split, sat_seq]
  simp_arith [-sat_seq]
  rw [sat_seq]
  simp_arith [-sat_seq]
  refine forL_sat _ _ _ (fun i e h' => ∃ (rs : List Rul) (e3 : Option PV), e = [some (.ref r), some (.lst (ws.map Told.enc)), some (.lst (rs.map ruV)), e3, none, none, none, none, none, none, none, none, none, none, none] ∧ h' = h ∧ (∀ r ∈ rs, RuleOk ws r) ∧ rs.length ≤ 2 * i) ?turn ?fin _ 0 _ _ (Nat.add_zero _) ⟨[], none, rfl, rfl, fun r hr => (by cases hr), by simp⟩
  case turn =>
    rintro i e' hh hi ⟨rs, e3, rfl, rfl, hR, hz⟩
    have hi' : i < ws.length := by
      have z : i < (ws.map Told.enc).length := hi
      rwa [List.length_map] at z
    refine ⟨ws[i].enc, _, by show (ws.map Told.enc)[i]? = _; rw [List.getElem?_map, List.getElem?_eq_getElem hi']; rfl, rfl, ?_⟩
    obtain ⟨qs, e2, hq, hqz⟩ := rules_ok W (List.getElem_mem hi') hh.length hh
    simp_arith [eq_sat e2]
    refine ⟨by simp only [List.length_map]; omega, rs ++ qs, _, by simp; rfl, fun q hq' => ?_, by rw [List.length_append]; omega⟩
    rcases List.mem_append.mp hq' with h | h
    · exact hR q h
    · exact hq q h
  case fin =>
    rintro e' hh ⟨rs, e3, rfl, rfl, hR, hz⟩
    have hz' : rs.length ≤ 12 := by
      have : (itS (ws.map Told.enc)).n = ws.length := List.length_map ..
      rw [this] at hz; omega
    refine ⟨rfl, ?_⟩
    rw [sat_seq]
    simp_arith [-sat_seq, dat_rules hR, lst_eq_nil, List.map_eq_nil_iff]
    by_cases z : rs = []
    · simp only [z, decide_true, Bool.not_true, Bool.false_eq_true, if_false]
      rw [if_neg (by decide)]
      exact fin a c ha hc hh rfl e fun x => rfl
    · simp only [z, decide_false, Bool.not_false, if_true]
      refine (take_ok e (by decide) (by decide) ha hc).mono ?_
      rintro v h1 ⟨d, a1, c1, rfl, d0, d1, ha1, hc1, rfl⟩
      simp_arith [-sat_seq]
      split
      · rw [sat_seq]
        simp_arith [-sat_seq]
        have pz : 0 < rs.length := List.length_pos_iff.mpr z
        refine (take_ok (er _) (by simp only [List.length_map]; omega) (by simp only [List.length_map]; omega) ha1 hc1).mono ?_
        rintro v h1 ⟨j, a2, c2, rfl, j0, j1, ha2, hc2, rfl⟩
        obtain ⟨j, rfl⟩ : ∃ q : Nat, j = q := ⟨j.toNat, by omega⟩
        have hj : j < rs.length := by simp only [List.length_map] at j1; omega
        refine ⟨ruV rs[j], by rw [ix_lst, atI_nat, List.getElem?_map, List.getElem?_eq_getElem hj]; rfl, ?_⟩
        rw [ss, popS_same (by simp)]
        exact ⟨rs[j], a2, c2, rfl, hR _ (List.getElem_mem hj), ha2, hc2, rfl⟩
      · exact fin a1 c1 ha1 hc1 _ (by simp) (er _) fun x => ss _ _
end K72
end
section
set_option Elab.async false
set_option linter.all false
set_option maxRecDepth 100000
namespace K72
open PySem Mn
local macro_rules
  | `(tactic| simp_arith [$ls,*]) => `(tactic| simp only [sat_ok, sat_bad, sat_bind, sat_C, sat_nil, sat_cons, sat_var, sat_tup, sat_lst, sat_mkL, sat_op2, sat_opL, sat_call, sat_att, sat_meth, sat_tv, sat_and, sat_or, sat_not, sat_yes, sat_andV, sat_orV, sat_notV, sat_ifE, sat_seq, sat_dnx, sat_ret, sat_retN, sat_exp, sat_set, sat_if, sat_never, sat_unp, sat_lset, sat_dput, sat_fset, sat_aug, sat_for, sat_comp, sat_fI, sat_sub, sat_div, sat_mod, sat_addI, sat_mulI, sat_addL, sat_addT, sat_addS, sat_ix, sat_in, sat_is, sat_isnot, sat_len, sat_pow, sat_bm, sat_sl, sat_part, sat_nopart, sat_eq, sat_ne, sat_seqI, seqI_lst, seqI_tup, ix_tup, ix_lst, ix_scr, atI_0, atI_1, atI_2, atI_3, atI_4, dat_str, dat_int, dat_non, dat_nil, eq_str, eq_int, PV.isN, fnE, List.map_cons, List.map_nil, List.length_cons, List.length_nil, Nat.reduceAdd, Nat.reduceSub, List.reduceReplicate, List.cons_append, List.nil_append, List.append_nil, List.getElem?_cons_succ, List.getElem?_cons_zero, List.set_cons_succ, List.set_cons_zero, Option.some.injEq, PV.bl.injEq, PV.int.injEq, exists_eq_left', exists_eq_left, decide_eq_true_eq, Bool.not_eq_true', Nat.reduceLeDiff, true_and, and_true, Bool.false_eq_true, if_true, if_false, gt_iff_lt, ge_iff_le, reduceCtorEq, false_and, and_false, exists_false, Bool.not_true, Bool.not_false, sat_rng1, sat_rng2, sat_zip, sat_zipL, sat_listOf, sat_tupOf, sat_all, sat_any, sat_isi, sat_make, sat_dic0, seqOf_lst, seqOf_tup, lstOf_lst, lenP_lst, lenP_tup, srcP_lst, srcP_tup, tyP_str, tyP_tup, tyP_lst, tyP_int, tyP_non, Option.bind_some, cut_to, cut_from, cut_toT, cut_fromT, wipeE, $ls,*])
theorem tup_eq_nil (xs : List PV) : PV.eq (.tup xs) (.tup []) = decide (xs = []) := by
  cases xs <;> simp [PV.eq, PV.toD, PV.toDs, PyData.eqv, PyData.eqvAll]
theorem dat_tupT {h : AH} {ts : List Tm} (d : Tm.deps ts ≤ 50) : datOf h (.tup (ts.map Tm.enc)) = some (.tup (ts.map Tm.enc)) := by
  have := encs_depth ts
  have e := encs_dat ts
  rw [encs_map] at this e
  exact datOf_of e (by simp only [PV.toD, PyData.depth]; omega)
theorem sig_kd {ws : List Told} (W : WsOk ws) {s : Sig} (hs : s ∈ sigs ws) : s.2.1.length ≤ 3 ∧ Kd s.2.2 ∧ ∀ t ∈ s.2.1, Kd t := sg_kd W (by
  rcases List.mem_append.mp hs with h | h
  · have e : ∀ s ∈ mkSigs, Kd s.2.2 ∧ (s.1, s.2.1) ∈ mks s.2.2 := by decide
    exact .inl (e _ h)
  · obtain ⟨w, hw, e⟩ := List.mem_map.mp h
    exact .inr ⟨w, hw, e⟩)
theorem spoilt_ok {ws : List Told} (W : WsOk ws) {r : Nat} : ∀ (m : Nat) (t : Tm) (k : Str) (a c : Int) (b : Nat) (h : AH), Pk ws [] t k → Kd k → t.dep ≤ m → t.dep ≤ 10 → t.size ≤ 1000 → h[r]? = some (src a c) → 0 ≤ a → 0 ≤ c →
    (f__law_spoilt m [.ref r, t.enc, .lst (ws.map Told.enc)] b h).sat fun v h' => ∃ t' a' c', v = t'.enc ∧ Pk ws [] t' k ∧ t'.dep ≤ t.dep + 1 ∧ 0 ≤ a' ∧ 0 ≤ c' ∧ h' = h.set r (src a' c')
  | 0, t, k, a, c, b, h, p, _, d, _, _, _, _, _ => by cases t <;> simp [Tm.dep] at d
  | m + 1, t, k, a, c, b, h, p, kd, d, d10, z, e, ha, hc => by
    have hr : r < h.length := (List.getElem?_eq_some_iff.mp e).1
    have er : ∀ x : AO, (h.set r x)[r]? = some x := fun x => List.getElem?_set_self hr
    have ss : ∀ x y : AO, (h.set r x).set r y = h.set r y := fun x y => List.set_set ..
    have td : 1 ≤ t.dep := by cases t <;> simp [Tm.dep]
    have last : ∀ (a c : Int), 0 ≤ a → 0 ≤ c → ∀ h1 : AH, h1.length = h.length → h1[r]? = some (src a c) → (∀ x, h1.set r x = h.set r x) → (f__law_term 6 [.ref r, .str k, .lst (namesL.map nmV), .lst (ws.map Told.enc), .int 1, .non] h.length h1).sat fun v h2 => PopS h.length v h2 fun v h' => ∃ t' a' c', v = t'.enc ∧ Pk ws [] t' k ∧ t'.dep ≤ t.dep + 1 ∧ 0 ≤ a' ∧ 0 ≤ c' ∧ h' = h.set r (src a' c') := by
      intro a c ha hc h1 hl e1 hs
      refine (term_ok (tmin_all W (ns := namesL) (by decide) (by decide)) 6 1 k a c _ _ (by decide) kd e1 ha hc).mono ?_
      rintro v h2 ⟨t', a', c', rfl, w1, w2, w3, ha', hc', rfl⟩
      rw [popS_same (by simp [hl])]
      exact ⟨t', a', c', rfl, wkg_pk w1, by omega, ha', hc', hs _⟩
    have nb := pk_closed p
    have kt := fun b h => law_kind_eq W p nb b h
    show (mkFn true 4 (d__law_spoilt (f__law_spoilt m)) _ b h).sat _
    rw [sat_fn]
    unfold d__law_spoilt
    rw [sat_seq]
    cases p with
    | bd e => cases e
    | nm =>
      rename_i x
      rw [enc_nm] at kt ⊢
      simp_arith [-sat_seq, s_nm]
      rw [sat_seq]
      simp_arith [eq_sat (kt _ _), eq_sat (names_eq _ _)]
      exact last a c ha hc h rfl e fun _ => rfl
    | mk hs hl hp =>
      rename_i f tk ps
      rw [enc_mk] at kt ⊢
      have dps : Tm.deps ps ≤ 9 := by simp only [Tm.dep] at d10; omega
      simp_arith [-sat_seq, dat_tupT (show Tm.deps ps ≤ 50 by omega), tup_eq_nil, List.map_eq_nil_iff]
      have nd : datOf h (.tup []) = some (.tup []) := rfl
      have tail : ∀ (a c : Int), 0 ≤ a → 0 ≤ c → ∀ h1 : AH, h1.length = h.length → h1[r]? = some (src a c) → (∀ x, h1.set r x = h.set r x) → ∀ e3 : Option PV, (dSeq (dRet (dCall (f__law_term 6) 6 [PV.non] (dCons (dVar 0) (dCons (dCall f__law_kind_of 2 [] (dCons (dVar 1) (dCons (dVar 2) dNil))) (dCons (dCall f__law_names 0 [] dNil) (dCons (dVar 2) (dCons (dC (PV.int 1)) dNil))))))) dNx
          [some (PV.ref r), some (PV.tup [PV.str "made", PV.str f, PV.tup (List.map Tm.enc ps)]), some (PV.lst (List.map Told.enc ws)), e3] h.length h1).sat
          (fun x h1 => PopS (List.length h) PV.non h1 fun v h' => ∃ t' a' c', v = t'.enc ∧ Pk ws [] t' k ∧ t'.dep ≤ (Tm.mk f ps).dep + 1 ∧ 0 ≤ a' ∧ 0 ≤ c' ∧ h' = List.set h r (src a' c'))
          fun v h1 => PopS (List.length h) v h1 fun v h' => ∃ t' a' c', v = t'.enc ∧ Pk ws [] t' k ∧ t'.dep ≤ (Tm.mk f ps).dep + 1 ∧ 0 ≤ a' ∧ 0 ≤ c' ∧ h' = List.set h r (src a' c') := by
        intro a c ha hc h1 hl1 e1 hs1 e3
        rw [sat_seq]
        simp_arith [eq_sat (kt _ _), eq_sat (names_eq _ _)]
        exact last a c ha hc h1 hl1 e1 hs1
      refine ⟨_, nd, ?_⟩
      rw [tup_eq_nil]
      by_cases zp : ps = []
      · rw [if_neg (by simp [zp])]
        exact tail a c ha hc h rfl e (fun _ => rfl) _
      · rw [if_pos (by simp [zp])]
        have pz : 0 < ps.length := List.length_pos_iff.mpr zp
        refine (take_ok e (by decide) (by decide) ha hc).mono ?_
        rintro v h1 ⟨d3, a1, c1, rfl, x0, x1, ha1, hc1, rfl⟩
        have gt : ∀ b (h : AH), fGt (.int d3) (.int 0) b h = .ok (.bl (decide (d3 > 0))) h := fun _ _ => rfl
        rw [eq_sat (gt _ _)]
        refine ⟨_, rfl, ?_⟩
        by_cases zd : d3 > 0
        · rw [if_pos (by simpa using zd), sat_seq]
          have lz := len_sizes ps
          have sz1 : Tm.sizes ps ≤ 1000 := by simp only [Tm.size] at z; omega
          simp_arith [-sat_seq]
          refine (take_ok (er _) (by simp only [List.length_map]; omega) (by simp only [List.length_map]; omega) ha1 hc1).mono ?_
          rintro v h1 ⟨j, a2, c2, rfl, j0, j1, ha2, hc2, rfl⟩
          obtain ⟨j, rfl⟩ : ∃ q : Nat, j = q := ⟨j.toNat, by omega⟩
          have hj : j < ps.length := by simp only [List.length_map] at j1; omega
          have hjt : j < tk.length := by omega
          obtain ⟨_, _, kk⟩ := sig_kd W hs
          have pj := hp j _ _ (List.getElem?_eq_getElem hj) (List.getElem?_eq_getElem hjt)
          have gj : (ps.map Tm.enc)[j]? = some ps[j].enc := by rw [List.getElem?_map, List.getElem?_eq_getElem hj]; rfl
          have dj : ps[j].dep ≤ Tm.deps ps := deps_le.mp (Nat.le_refl _) _ (List.getElem_mem hj)
          have zj : ps[j].size ≤ Tm.sizes ps := by
            have := sizes_cat (ps.take j) (ps.drop j)
            rw [List.take_append_drop, List.drop_eq_getElem_cons hj] at this
            simp only [Tm.sizes] at this
            omega
          rw [ss, sat_seq]
          simp_arith [-sat_seq, atI_nat, gj]
          refine (spoilt_ok W m ps[j] tk[j] a2 c2 h.length _ pj (kk _ (List.getElem_mem hjt)) (by simp only [Tm.dep] at d; omega) (by omega) (by omega) (er _) ha2 hc2).mono ?_
          rintro v h3 ⟨u, a3, c3, rfl, pu, du, ha3, hc3, rfl⟩
          rw [ss]
          refine ⟨by rw [List.length_take, List.length_map]; omega, ?_⟩
          rw [show ((j : Int) + 1) = ((j + 1 : Nat) : Int) by omega, cut_fromT]
          simp_arith []
          refine ⟨by simp only [List.length_append, List.length_take, List.length_drop, List.length_map, List.length_cons, List.length_nil]; omega, ?_⟩
          have hl2 : (h.set r (src a3 c3)).length = h.length := by simp
          rw [popS_same hl2]
          refine ⟨.mk f (ps.set j u), a3, c3, ?_, .mk hs (by rw [List.length_set, hl]) fun i q t e1 e2 => ?_, ?_, ha3, hc3, rfl⟩
          · rw [enc_mk, List.map_set, List.set_eq_take_append_cons_drop, if_pos (by rw [List.length_map]; exact hj)]
            simp
          · by_cases zi : j = i
            · subst zi
              rw [List.getElem?_set_self hj] at e1
              cases e1
              rw [List.getElem?_eq_getElem hjt] at e2
              cases e2
              exact pu
            · rw [List.getElem?_set_ne zi] at e1
              exact hp i q t e1 e2
          · simp only [Tm.dep]
            have : Tm.deps (ps.set j u) ≤ Tm.deps ps + 1 := deps_le.mpr fun x hx => by
              rcases List.mem_or_eq_of_mem_set hx with h | h
              · have := deps_le.mp (Nat.le_refl (Tm.deps ps)) x h
                omega
              · rw [h]; omega
            omega
        · rw [if_neg (by simpa using zd)]
          exact tail a1 c1 ha1 hc1 _ (by simp) (er _) (fun _ => ss _ _) _
end K72
end
section
set_option Elab.async false
set_option linter.all false
set_option maxRecDepth 100000
namespace K72
open PySem Mn
local macro_rules
  | `(tactic| simp_arith [$ls,*]) => `(tactic| simp only [sat_ok, sat_bad, sat_bind, sat_C, sat_nil, sat_cons, sat_var, sat_tup, sat_lst, sat_mkL, sat_op2, sat_opL, sat_call, sat_att, sat_meth, sat_tv, sat_and, sat_or, sat_not, sat_yes, sat_andV, sat_orV, sat_notV, sat_ifE, sat_seq, sat_dnx, sat_ret, sat_retN, sat_exp, sat_set, sat_if, sat_never, sat_unp, sat_lset, sat_dput, sat_fset, sat_aug, sat_for, sat_comp, sat_fI, sat_sub, sat_div, sat_mod, sat_addI, sat_mulI, sat_addL, sat_addT, sat_addS, sat_ix, sat_in, sat_is, sat_isnot, sat_len, sat_pow, sat_bm, sat_sl, sat_part, sat_nopart, sat_eq, sat_ne, sat_seqI, seqI_lst, seqI_tup, ix_tup, ix_lst, ix_scr, atI_0, atI_1, atI_2, atI_3, atI_4, dat_str, dat_int, dat_non, dat_nil, eq_str, eq_int, PV.isN, fnE, List.map_cons, List.map_nil, List.length_cons, List.length_nil, Nat.reduceAdd, Nat.reduceSub, List.reduceReplicate, List.cons_append, List.nil_append, List.append_nil, List.getElem?_cons_succ, List.getElem?_cons_zero, List.set_cons_succ, List.set_cons_zero, Option.some.injEq, PV.bl.injEq, PV.int.injEq, exists_eq_left', exists_eq_left, decide_eq_true_eq, Bool.not_eq_true', Nat.reduceLeDiff, true_and, and_true, Bool.false_eq_true, if_true, if_false, gt_iff_lt, ge_iff_le, reduceCtorEq, false_and, and_false, exists_false, Bool.not_true, Bool.not_false, sat_rng1, sat_rng2, sat_zip, sat_zipL, sat_listOf, sat_tupOf, sat_all, sat_any, sat_isi, sat_make, sat_dic0, seqOf_lst, seqOf_tup, lstOf_lst, lenP_lst, lenP_tup, srcP_lst, srcP_tup, tyP_str, tyP_tup, tyP_lst, tyP_int, tyP_non, Option.bind_some, cut_to, cut_from, cut_toT, cut_fromT, wipeE, $ls,*])
theorem inst_pk {ws : List Told} {ks : List Str} {σ : Nat → Tm} (hσ : ∀ (n : Nat) (k : Str), ks[n]? = some k → Pk ws [] (σ n) k) {t : Tm} {k : Str} (p : Pk ws ks t k) : Pk ws [] (inst σ t) k := by
  induction p with
  | nm => rw [inst]; exact .nm
  | bd e => rw [inst]; exact hσ _ _ e
  | mk hs hl ha ih =>
    rw [inst]
    refine .mk hs (by rw [insts_map, List.length_map, hl]) fun i q t e1 e2 => ?_
    rw [insts_map, List.getElem?_map] at e1
    obtain ⟨p, e, rfl⟩ := Option.map_eq_some_iff.mp e1
    exact ih i p t e e2
theorem inst_dep {σ : Nat → Tm} {D : Nat} (hσ : ∀ n, (σ n).dep ≤ D) : ∀ t : Tm, (inst σ t).dep ≤ t.dep + D := by
  intro t
  induction t using Tm.ind with
  | nm x k => rw [inst]; omega
  | bd n => rw [inst]; have := hσ n; omega
  | mk f ps ih =>
    rw [inst]
    have : Tm.deps (insts σ ps) ≤ Tm.deps ps + D := by
      rw [insts_map]
      refine deps_le.mpr fun x hx => ?_
      obtain ⟨p, hp, rfl⟩ := List.mem_map.mp hx
      have := ih p hp
      have := deps_le.mp (Nat.le_refl (Tm.deps ps)) p hp
      omega
    simp only [Tm.dep]; omega
theorem inst_size {σ : Nat → Tm} {M : Nat} (hM : 1 ≤ M) (hσ : ∀ n, (σ n).size ≤ M) : ∀ t : Tm, (inst σ t).size ≤ t.size * M := by
  intro t
  induction t using Tm.ind with
  | nm x k => rw [inst]; simp only [Tm.size]; omega
  | bd n => rw [inst]; have := hσ n; simp only [Tm.size]; omega
  | mk f ps ih =>
    rw [inst]
    have : ∀ qs : List Tm, (∀ q ∈ qs, q ∈ ps) → Tm.sizes (insts σ qs) ≤ Tm.sizes qs * M := by
      intro qs
      induction qs with
      | nil => intro _; simp [insts, Tm.sizes]
      | cons q qs ih2 =>
        intro h
        have a := ih2 fun q hq => h q (List.mem_cons_of_mem _ hq)
        have b := ih q (h q List.mem_cons_self)
        simp only [insts, Tm.sizes, Nat.add_mul]; omega
    have := this ps fun _ h => h
    simp only [Tm.size, Nat.add_mul]; omega
def sigT (ts : List Tm) (n : Nat) : Tm := ts.getD n (.nm "t" "thing")
theorem law_ok (ns : List Int) (hn : ns.length ≤ 63) : ∃ h, f_law [.scr ns] 0 [] = .ok (.bl true) h := by
  have main : (f_law [.scr ns] 0 []).sat fun v _ => v = .bl true := by
    unfold f_law
    rw [sat_fn]
    unfold d_law
    rw [sat_seq]
    simp_arith [-sat_seq]
    refine (source_ok ns 1 (by decide) 0 []).mono ?_
    rintro v h1 ⟨a, c, rfl, ha, hc, rfl⟩
    refine (works_ok 0 (h := [src a c]) (r := 0) rfl ha hc).mono ?_
    rintro v h1 ⟨ws, a1, c1, rfl, W, _, ha1, hc1, rfl⟩
    have rt0 := fun ks l t0 => @right_told_ok ws ks l t0 W
    generalize f__law_right_told = FN at rt0 ⊢
    rw [sat_seq]
    show SR.sat (dSet _ _ _ _ [src a1 c1]) _ _
    simp_arith [-sat_seq, eq_sat (ground_ok (src a1 c1) W _)]
    rw [sat_seq]
    simp_arith [-sat_seq]
    refine ⟨ns.length, rfl, ?_⟩
    rw [sat_max2, sat_min2, sat_addI]
    have mx : (if (ns.length : Int) - 3 > 0 then (ns.length : Int) - 3 else 0) ≤ 60 ∧ 0 ≤ (if (ns.length : Int) - 3 > 0 then (ns.length : Int) - 3 else 0) := by split <;> omega
    generalize (if (ns.length : Int) - 3 > 0 then (ns.length : Int) - 3 else 0) = m at mx
    have mn : (if m < 9 then m else 9) ≤ 9 ∧ 0 ≤ (if m < 9 then m else 9) := by split <;> omega
    generalize (if m < 9 then m else 9) = q at mn
    refine ⟨2, 3 + q, rfl, ⟨by omega, by omega, by omega, by omega⟩, ?_⟩
    refine forL_sat _ _ _ (fun i e h' => ∃ e3 e4 e5 e6 e7 e8, e = [some (.scr ns), some (.lst (ws.map Told.enc)), some (gV ws), e3, e4, e5, e6, e7, e8, none]) ?turn ?fin _ 0 _ _ (Nat.add_zero _) ⟨none, none, none, none, none, none, rfl⟩
    case turn =>
      rintro i e hh hi ⟨e3, e4, e5, e6, e7, e8, rfl⟩
      have hi' : i < (3 + q - 2).toNat := hi
      refine ⟨.int ((2 + i : Nat) : Int), _, by show some (PV.int (2 + (i : Nat))) = _; rw [Int.natCast_add]; rfl, rfl, ?_⟩
      rw [sat_seq]
      simp_arith [-sat_seq]
      refine (source_ok ns (2 + i) (by omega) 0 hh).mono ?_
      rintro v h1 ⟨a2, c2, rfl, ha2, hc2, rfl⟩
      have eS : ∀ x, (hh ++ [x])[hh.length]? = some x := fun x => by
        rw [List.getElem?_append_right (Nat.le_refl _)]; simp
      have sS : ∀ x y : AO, (hh ++ [x]).set hh.length y = hh ++ [y] := fun x y => by
        rw [List.set_append_right _ _ (Nat.le_refl _)]; simp
      rw [sat_seq]
      simp_arith [-sat_seq]
      refine (drawn_ok W (eS _) ha2 hc2).mono ?_
      rintro v h1 ⟨rl, a3, c3, rfl, R, ha3, hc3, rfl⟩
      obtain ⟨ks, l, rr⟩ := rl
      obtain ⟨k, kd, pl, pr⟩ := R.typ
      have rdl : l.dep ≤ 3 := R.dl
      have rdr : rr.dep ≤ 3 := R.dr
      have rzl : l.size ≤ 13 := R.zl
      have rzr : rr.size ≤ 13 := R.zr
      have rkk : ∀ k ∈ ks, Kd k := R.kds
      have rln : ks.length ≤ 8 := R.len
      dsimp only at pl pr
      rw [sat_seq]
      simp_arith [-sat_seq, ruV, ruleV]
      have T : TmIn namesL ws none := tmin_all W (by decide) (by decide)
      have hr1 : hh.length < (hh ++ [src a2 c2]).length := by simp
      refine terms_ok W T (n := 1) (by decide) rkk hr1 ha3 hc3 (fun k a4 c4 ha4 hc4 hk => ⟨_, rfl, fun Q q => ?_⟩) (fun ts a4 c4 hl hp hdp hsz ha4 hc4 => ?_)
      · simp_arith [eq_sat (names_eq _ _)]
        exact q
      · rw [sS]
        rw [sat_seq]
        have ixl : ∀ n, n < (ts.map Tm.enc).length → ixP (hh ++ [src a4 c4]) (.lst (ts.map Tm.enc)) (.int (n : Nat)) = some ((ts.map Tm.enc).getD n .non) := fun n hn => by
          rw [ix_lst, atI_nat, List.getD, List.getElem?_eq_getElem hn]; rfl
        have ltl : (ts.map Tm.enc).length = ks.length := by rw [List.length_map, hl]
        have pe := put_eq ixl 12 l 0 (by rw [ltl]; exact pk_bel pl) (by omega)
        have ie : instV (ts.map Tm.enc) l = (inst (sigT ts) l).enc := inst_V l fun n sb => by
          have := pk_bel pl n sb
          have hn : n < ts.length := by omega
          simp only [List.getD, List.getElem?_map, List.getElem?_eq_getElem hn, Option.map_some, Option.getD_some, sigT]
        rw [ie] at pe
        have tpk : Pk ws [] (inst (sigT ts) l) k := inst_pk (fun n k e => by
          have hn : n < ts.length := by rw [hl]; exact (List.getElem?_eq_some_iff.mp e).1
          simp only [sigT, List.getD, List.getElem?_eq_getElem hn, Option.getD_some]
          exact hp n _ k (List.getElem?_eq_getElem hn) e) pl
        have tdp : (inst (sigT ts) l).dep ≤ 5 := by
          have := inst_dep (σ := sigT ts) (D := 2) (fun n => by
            simp only [sigT, List.getD]
            by_cases hn : n < ts.length
            · rw [List.getElem?_eq_getElem hn]; exact deps_le.mp hdp _ (List.getElem_mem hn)
            · rw [List.getElem?_eq_none (by omega)]; simp [Tm.dep]) l
          omega
        have szn : Tm.sizes ts ≤ 32 := by
          have e1 : sz 1 = 4 := rfl
          rw [e1] at hsz
          omega
        have tsz : (inst (sigT ts) l).size ≤ 13 * 32 := by
          have := inst_size (σ := sigT ts) (M := 32) (by decide) (fun n => by
            simp only [sigT, List.getD]
            by_cases hn : n < ts.length
            · rw [List.getElem?_eq_getElem hn]
              have := sizes_cat (ts.take n) (ts.drop n)
              rw [List.take_append_drop, List.drop_eq_getElem_cons hn] at this
              simp only [Tm.sizes] at this
              simp only [Option.getD_some]
              omega
            · rw [List.getElem?_eq_none (by omega)]; simp [Tm.size]) l
          have := Nat.mul_le_mul_right 32 rzl
          omega
        simp_arith [-sat_seq, ruV, ruleV, eq_sat pe]
        generalize inst (sigT ts) l = t0 at tpk tdp tsz
        rw [sat_seq]
        simp_arith [-sat_seq]
        refine (take_ok (eS _) (by decide) (by decide) ha4 hc4).mono ?_
        rintro v h1 ⟨d, a5, c5, rfl, d0, d1, ha5, hc5, rfl⟩
        rw [sS]
        have rt := fun (t : Tm) (pt : Pk ws [] t k) (dt : t.dep ≤ 12) b h => rt0 ks l t pl pr pt (by omega) (by omega) (by omega) dt (by omega) (by omega) b h
        unfold ruleV at rt
        have nb := pk_closed tpk
        rw [sat_seq]
        simp_arith [-sat_seq]
        by_cases z1 : d = 1
        · have z2 : ¬ d = 2 := by omega
          simp only [z1, if_true]
          rw [sat_seq]
          simp_arith [-sat_seq]
          refine (spoilt_ok W 12 t0 k a5 c5 0 _ tpk kd (by omega) (by omega) (by omega) (eS _) ha5 hc5).mono ?_
          rintro v h1 ⟨t, a6, c6, rfl, pt, dt, ha6, hc6, rfl⟩
          rw [sat_seq]
          simp_arith [-sat_seq]
          rw [if_neg (by decide), sat_seq]
          have r1 := rt t pt (by omega) 0 (hh ++ [src a6 c6])
          simp_arith [-sat_seq, sS, eq_sat r1]
          exact ⟨_, _, _, _, _, _, rfl⟩
        · simp only [z1, if_false]
          rw [sat_seq]
          simp_arith [-sat_seq]
          by_cases z2 : d = 2
          · simp only [z2, if_true]
            rw [sat_seq]
            simp_arith [-sat_seq, eq_sat (law_kind_eq W tpk nb _ _), eq_sat (names_eq _ _)]
            refine (term_ok T 6 3 k a5 c5 0 _ (by decide) kd (eS _) ha5 hc5).mono ?_
            rintro v h1 ⟨t, a6, c6, rfl, w1, w2, w3, ha6, hc6, rfl⟩
            have pt := wkg_pk (ks := []) w1
            have r1 := rt t pt (by omega) 0 (hh ++ [src a6 c6])
            rw [sat_seq]
            simp_arith [-sat_seq, sS, eq_sat r1]
            exact ⟨_, _, _, _, _, _, rfl⟩
          · simp only [z2, if_false]
            rw [sat_seq]
            simp_arith [-sat_seq, eq_sat (rt t0 tpk (by omega) _ _)]
            exact ⟨_, _, _, _, _, _, rfl⟩
    case fin =>
      rintro e hh ⟨e3, e4, e5, e6, e7, e8, rfl⟩
      refine ⟨rfl, ?_⟩
      simp_arith []
      rw [popS_low rfl (Nat.zero_le _)]
  cases e : f_law [.scr ns] 0 [] with
  | ok v h' =>
    rw [e] at main
    have : v = .bl true := main
    exact ⟨h', by rw [this]⟩
  | exc => rw [e] at main; exact main.elim
  | bad => rw [e] at main; exact main.elim
end K72
end
set_option maxRecDepth 100000 in
set_option maxHeartbeats 0 in
theorem PySem.Challenge.cw_samesmith_k72_lefts_held_against_terms_holds : PySem.Challenge.rw_samesmith_k72_lefts_held_against_terms.Holds := by
  exact K72.law_end K72.law_ok
