import PyProof.Rows.All
import Wide.All
import OpenK.AllK
import Wide.FinOn
import HandS.ForMost
import HandS.ForExc
import HandS.Defaults
import HandS.MakeKw
import HandS.MakeKwOnly
import HandS.IsInst
import HandS.FStr
import PyProof.InstEq
import HandS.NamedTupSort
import HandS.OwnEq
import HandS.SlotsOwn
import KE.DataCmp
import PySem.Challenge.RW_seenstands_k01_rooms_made
set_option Elab.async false
set_option linter.all false
set_option maxRecDepth 100000
set_option maxHeartbeats 4000000
/-! Al: an abstract layer: data as trees, mutable objects by numbers. -/
namespace Al
open PySem L2

inductive D where
  | non | bl (b : Bool) | int (i : Int) | str (s : Str) | ty (n : String) | adr (a : Addr)
  | tup (l : List D) | lst (l : List D) | scr (l : List D) | ins (C : Addr) (ns : List Str) (l : List D)

mutual
def RD (K : PySem.W.Frag) (W : Hp) : D → V → Prop
  | .non, v => v = .non
  | .bl b, v => v = .bl b
  | .int i, v => v = .int i
  | .str s, v => v = .str s
  | .ty n, v => v = .ty n
  | .adr a, v => v = .ref a
  | .tup l, v => ∃ a vs, v = .ref a ∧ SqT K W a vs ∧ RDs K W l vs
  | .lst l, v => ∃ a vs, v = .ref a ∧ W a = some (.lst vs) ∧ RDs K W l vs
  | .scr l, v => ∃ a vs, v = .ref a ∧ SqL K W a vs ∧ RDs K W l vs
  | .ins C ns l, v => ∃ a dx vs, v = .ref a ∧ W a = some (.ins C dx (ns.zip vs)) ∧ ns.length = l.length ∧ RDs K W l vs
def RDs (K : PySem.W.Frag) (W : Hp) : List D → List V → Prop
  | [], vs => vs = []
  | d :: l, vs => ∃ v r, vs = v :: r ∧ RD K W d v ∧ RDs K W l r
end
/-- what a slot holds: data, or the k-th mutable object -/
inductive AV where
  | d (x : D) | m (k : Nat)
/-- a mutable object -/
inductive MO where
  | lst (l : List D) | ins (C : Addr) (ns : List Str) (l : List AV)

def AV.isD : AV → Bool | .d _ => true | .m _ => false
def MO.isD : MO → Bool | .lst _ => true | .ins _ _ l => l.all AV.isD
def AV.below (n : Nat) : AV → Bool | .d _ => true | .m k => decide (k < n)
def MO.below (n : Nat) : MO → Bool | .lst _ => true | .ins _ _ l => l.all (AV.below n)

section
variable {K : PySem.W.Frag} {W W' H H' : Hp} {μ : List Addr}
theorem sqt_mono (e : Same W W') {a : Addr} {xs : List V} (h : SqT K W a xs) : SqT K W' a xs := by
  rcases h with (h | ⟨o, h⟩) | h
  · exact .inl (.inl (e _ _ h))
  · exact .inl (.inr ⟨o, e _ _ h⟩)
  · exact .inr h
mutual
theorem RD.mono (e : Same W W') : ∀ {d : D} {v : V}, RD K W d v → RD K W' d v
  | .non, _, h => h
  | .bl _, _, h => h
  | .int _, _, h => h
  | .str _, _, h => h
  | .ty _, _, h => h
  | .adr _, _, h => h
  | .tup l, _, ⟨a, vs, e1, h, r⟩ => ⟨a, vs, e1, sqt_mono e h, RDs.mono e r⟩
  | .lst l, _, ⟨a, vs, e1, h, r⟩ => ⟨a, vs, e1, e _ _ h, RDs.mono e r⟩
  | .scr l, _, ⟨a, vs, e1, h, r⟩ => ⟨a, vs, e1, e.seq h, RDs.mono e r⟩
  | .ins C ns l, _, ⟨a, dx, vs, e1, h, n, r⟩ => ⟨a, dx, vs, e1, e _ _ h, n, RDs.mono e r⟩
theorem RDs.mono (e : Same W W') : ∀ {l : List D} {vs : List V}, RDs K W l vs → RDs K W' l vs
  | [], _, h => h
  | d :: l, _, ⟨v, r, e1, h, t⟩ => ⟨v, r, e1, RD.mono e h, RDs.mono e t⟩
end
theorem RDs.length : ∀ {l : List D} {vs : List V}, RDs K W l vs → l.length = vs.length
  | [], _, h => by cases h; rfl
  | d :: l, _, ⟨v, r, e1, h, t⟩ => by subst e1; simp [RDs.length t]
theorem RDs.get : ∀ {l : List D} {vs : List V} {i : Nat} {d : D}, RDs K W l vs → l[i]? = some d → ∃ v, vs[i]? = some v ∧ RD K W d v
  | [], _, _, _, _, h => by simp at h
  | d :: l, _, 0, _, ⟨v, r, e1, h, t⟩, q => by subst e1; simp at q; subst q; exact ⟨v, rfl, h⟩
  | d :: l, _, i + 1, _, ⟨v, r, e1, h, t⟩, q => by
    subst e1
    obtain ⟨v', a, b⟩ := RDs.get (i := i) t (by simpa using q)
    exact ⟨v', by simpa using a, b⟩
theorem RDs.back : ∀ {l : List D} {vs : List V} {i : Nat} {v : V}, RDs K W l vs → vs[i]? = some v → ∃ d, l[i]? = some d ∧ RD K W d v
  | [], _, _, _, h, q => by cases h; simp at q
  | d :: l, _, 0, _, ⟨v, r, e1, h, t⟩, q => by subst e1; simp at q; subst q; exact ⟨d, rfl, h⟩
  | d :: l, _, i + 1, _, ⟨v, r, e1, h, t⟩, q => by
    subst e1
    obtain ⟨v', a, b⟩ := RDs.back (i := i) t (by simpa using q)
    exact ⟨v', by simpa using a, b⟩
theorem RDs.append : ∀ {l l' : List D} {vs vs' : List V}, RDs K W l vs → RDs K W l' vs' → RDs K W (l ++ l') (vs ++ vs')
  | [], _, _, _, h, q => by cases h; exact q
  | d :: l, _, _, _, ⟨v, r, e1, h, t⟩, q => by subst e1; exact ⟨v, r ++ _, rfl, h, RDs.append t q⟩
theorem RDs.one {d : D} {v : V} (h : RD K W d v) : RDs K W [d] [v] := ⟨v, [], rfl, h, rfl⟩
theorem RDs.set {d : D} {v : V} (h : RD K W d v) : ∀ {l : List D} {vs : List V} (i : Nat), RDs K W l vs → RDs K W (l.set i d) (vs.set i v)
  | [], _, _, q => by cases q; exact rfl
  | x :: l, _, 0, ⟨y, r, e1, a, t⟩ => by subst e1; exact ⟨v, r, rfl, h, t⟩
  | x :: l, _, i + 1, ⟨y, r, e1, a, t⟩ => by subst e1; exact ⟨y, _, rfl, a, RDs.set h i t⟩
theorem RDs.take : ∀ {l : List D} {vs : List V} (i : Nat), RDs K W l vs → RDs K W (l.take i) (vs.take i)
  | [], _, _, q => by cases q; simp [RDs]
  | x :: l, _, 0, ⟨y, r, e1, a, t⟩ => by subst e1; exact rfl
  | x :: l, _, i + 1, ⟨y, r, e1, a, t⟩ => by subst e1; exact ⟨y, _, rfl, a, RDs.take i t⟩
theorem RDs.drop : ∀ {l : List D} {vs : List V} (i : Nat), RDs K W l vs → RDs K W (l.drop i) (vs.drop i)
  | [], _, _, q => by cases q; simp [RDs]
  | x :: l, _, 0, ⟨y, r, e1, a, t⟩ => by subst e1; exact ⟨y, _, rfl, a, t⟩
  | x :: l, _, i + 1, ⟨y, r, e1, a, t⟩ => by subst e1; exact RDs.drop i t
theorem RDs.ints : ∀ {ns : List Int} {vs : List V}, RDs K W (ns.map D.int) vs → vs = ns.map V.int
  | [], _, h => h
  | n :: ns, _, ⟨v, r, e1, h, t⟩ => by subst e1; cases h; rw [RDs.ints t]; rfl
theorem RDs.of_ints : ∀ (ns : List Int), RDs K W (ns.map D.int) (ns.map V.int)
  | [] => rfl
  | n :: ns => ⟨_, _, rfl, rfl, RDs.of_ints ns⟩
theorem RDs.strs : ∀ {ns : List Str} {vs : List V}, RDs K W (ns.map D.str) vs → vs = ns.map V.str
  | [], _, h => h
  | n :: ns, _, ⟨v, r, e1, h, t⟩ => by subst e1; cases h; rw [RDs.strs t]; rfl
theorem RDs.bls : ∀ {ns : List Bool} {vs : List V}, RDs K W (ns.map D.bl) vs → vs = ns.map V.bl
  | [], _, h => h
  | n :: ns, _, ⟨v, r, e1, h, t⟩ => by subst e1; cases h; rw [RDs.bls t]; rfl

def RA (K : PySem.W.Frag) (W : Hp) (μ : List Addr) : AV → V → Prop
  | .d x, v => RD K W x v
  | .m k, v => ∃ a, μ[k]? = some a ∧ v = .ref a
theorem RA.mono {μ' : List Addr} (e : Same W W') {x : AV} {v : V} (h : RA K W μ x v) : RA K W' (μ ++ μ') x v := by
  cases x with
  | d x => exact RD.mono e h
  | m k =>
    obtain ⟨a, h1, h2⟩ := h
    exact ⟨a, by rw [List.getElem?_append_left (List.getElem?_eq_some_iff.mp h1).1]; exact h1, h2⟩
def RAs (K : PySem.W.Frag) (W : Hp) (μ : List Addr) : List AV → List V → Prop
  | [], vs => vs = []
  | x :: l, vs => ∃ v r, vs = v :: r ∧ RA K W μ x v ∧ RAs K W μ l r
theorem RAs.mono {μ' : List Addr} (e : Same W W') : ∀ {l : List AV} {vs : List V}, RAs K W μ l vs → RAs K W' (μ ++ μ') l vs
  | [], _, h => h
  | d :: l, _, ⟨v, r, e1, h, t⟩ => ⟨v, r, e1, RA.mono e h, RAs.mono e t⟩
theorem RAs.length : ∀ {l : List AV} {vs : List V}, RAs K W μ l vs → l.length = vs.length
  | [], _, h => by cases h; rfl
  | d :: l, _, ⟨v, r, e1, h, t⟩ => by subst e1; simp [RAs.length t]
theorem RAs.append : ∀ {l l' : List AV} {vs vs' : List V}, RAs K W μ l vs → RAs K W μ l' vs' → RAs K W μ (l ++ l') (vs ++ vs')
  | [], _, _, _, h, q => by cases h; exact q
  | d :: l, _, _, _, ⟨v, r, e1, h, t⟩, q => by subst e1; exact ⟨v, r ++ _, rfl, h, RAs.append t q⟩
theorem RAs.of_ds : ∀ {l : List D} {vs : List V}, RAs K W μ (l.map AV.d) vs → RDs K W l vs
  | [], _, h => h
  | d :: l, _, ⟨v, r, e1, h, t⟩ => ⟨v, r, e1, h, RAs.of_ds t⟩
theorem RAs.get : ∀ {l : List AV} {vs : List V} {i : Nat} {d : AV}, RAs K W μ l vs → l[i]? = some d → ∃ v, vs[i]? = some v ∧ RA K W μ d v
  | [], _, _, _, _, h => by simp at h
  | d :: l, _, 0, _, ⟨v, r, e1, h, t⟩, q => by subst e1; simp at q; subst q; exact ⟨v, rfl, h⟩
  | d :: l, _, i + 1, _, ⟨v, r, e1, h, t⟩, q => by
    subst e1
    obtain ⟨v', a, b⟩ := RAs.get (i := i) t (by simpa using q)
    exact ⟨v', by simpa using a, b⟩

def OR (K : PySem.W.Frag) (W : Hp) (μ : List Addr) (H : Hp) : MO → Addr → Prop
  | .lst l, a => ∃ vs, H a = some (.lst vs) ∧ RDs K W l vs
  | .ins C ns l, a => ∃ dx vs, H a = some (.ins C dx (ns.zip vs)) ∧ ns.length = l.length ∧ RAs K W μ l vs
theorem OR.mono {μ' : List Addr} (e : Same W W') {o : MO} {a : Addr} (ha : ∀ u, H a = some u → H' a = some u) (h : OR K W μ H o a) : OR K W' (μ ++ μ') H' o a := by
  cases o with
  | lst l =>
    obtain ⟨vs, h1, h2⟩ := h
    exact ⟨vs, ha _ h1, RDs.mono e h2⟩
  | ins C ns l =>
    obtain ⟨dx, vs, h1, h2, h3⟩ := h
    exact ⟨dx, vs, ha _ h1, h2, RAs.mono e h3⟩
theorem OR.live {o : MO} {a : Addr} (h : OR K W μ H o a) : ∃ u, H a = some u := by
  cases o with
  | lst l => obtain ⟨vs, h1, _⟩ := h; exact ⟨_, h1⟩
  | ins C ns l => obtain ⟨dx, vs, h1, _⟩ := h; exact ⟨_, h1⟩

/-- the heap as it is seen: W what never changes any more, μ where the mutable objects stand, M what they hold -/
structure Sim (K : PySem.W.Frag) (W : Hp) (μ : List Addr) (M : List MO) (H : Hp) : Prop where
  sub : Same W H
  nd : μ.Nodup
  len : μ.length = M.length
  out : ∀ a ∈ μ, W a = none
  ob : ∀ (k : Nat) (a : Addr) (o : MO), μ[k]? = some a → M[k]? = some o → OR K W μ H o a
theorem Sim.live {M : List MO} (S : Sim K W μ M H) {a : Addr} (h : a ∈ μ) : ∃ u, H a = some u := by
  obtain ⟨k, hk, e⟩ := List.getElem_of_mem h
  have hm : k < M.length := by rw [← S.len]; exact hk
  exact (S.ob k a M[k] (by rw [← e]; exact List.getElem?_eq_getElem hk) (List.getElem?_eq_getElem hm)).live

structure Base where
  W0 : Hp
  μ0 : List Addr
  H0 : Hp
structure Ok (B : Base) (W : Hp) (μ : List Addr) (H : Hp) : Prop where
  wsub : Same B.W0 W
  wnew : ∀ a o, W a = some o → B.W0 a = some o ∨ B.H0 a = none
  fr : ∀ a o, B.H0 a = some o → a ∉ B.μ0 → H a = some o
  pre : ∃ ext, μ = B.μ0 ++ ext ∧ ∀ a ∈ ext, B.H0 a = none
  live : ∀ a, H a = none → B.H0 a = none
theorem Ok.refl : Ok ⟨W, μ, H⟩ W μ H := ⟨fun _ _ h => h, fun _ _ h => .inl h, fun _ _ h _ => h, ⟨[], by simp, by simp⟩, fun _ h => h⟩
/-- behind a step from here: Ok to Ok -/
theorem Ok.trans {B : Base} {μ' μs : List Addr} (a : Ok B W μ H) (hs : ∀ x ∈ μs, x ∈ μ) (b : Ok ⟨W, μs, H⟩ W' μ' H') {e : List Addr} (he : μ' = μs ++ e) : Ok B W' (μ ++ e) H' := by
  obtain ⟨ext, e1, e2⟩ := a.pre
  obtain ⟨ext', e3, e4⟩ := b.pre
  have : e = ext' := List.append_cancel_left (he.symm.trans e3)
  subst this
  refine ⟨a.wsub.trans b.wsub, fun x o h => ?_, fun x o h hx => ?_, ⟨ext ++ e, by rw [e1, List.append_assoc], fun x hx => ?_⟩, fun x h => a.live x (b.live x h)⟩
  · rcases b.wnew x o h with h | h
    · exact a.wnew x o h
    · exact .inr (a.live x h)
  · refine b.fr x o (a.fr x o h hx) fun hm => ?_
    have hm := hs x hm
    rw [e1] at hm
    rcases List.mem_append.mp hm with hm | hm
    · exact hx hm
    · rw [e2 x hm] at h; cases h
  · rcases List.mem_append.mp hx with hx | hx
    · exact e2 x hx
    · exact a.live x (e4 x hx)
end

abbrev AEnv := List (Option AV)
def RE (K : PySem.W.Frag) (W : Hp) (μ : List Addr) (σ : AEnv) (τ : L2.St) : Prop := σ.length = τ.length ∧ ∀ (i : Nat) (x : AV), σ[i]? = some (some x) → ∃ v, τ[i]? = some (some v) ∧ RA K W μ x v
theorem RE.mono {K : PySem.W.Frag} {W W' : Hp} {μ μ' : List Addr} {σ : AEnv} {τ : L2.St} (e : Same W W') (h : RE K W μ σ τ) : RE K W' (μ ++ μ') σ τ :=
  ⟨h.1, fun i x q => let ⟨v, a, b⟩ := h.2 i x q; ⟨v, a, RA.mono e b⟩⟩
theorem RE.set {K : PySem.W.Frag} {W : Hp} {μ : List Addr} {σ : AEnv} {τ : L2.St} {x : AV} {v : V} (h : RE K W μ σ τ) (r : RA K W μ x v) (i : Nat) : RE K W μ (σ.set i (some x)) (τ.set i (some v)) := by
  refine ⟨by simp [h.1], fun j y q => ?_⟩
  by_cases hj : i = j
  · subst hj
    rw [List.getElem?_set] at q
    simp only [if_true] at q
    by_cases hl : i < σ.length
    · rw [if_pos hl] at q
      cases q
      exact ⟨v, by rw [List.getElem?_set]; simp [← h.1, hl], r⟩
    · rw [if_neg hl] at q; cases q
  · rw [List.getElem?_set_ne hj] at q
    obtain ⟨w, a, b⟩ := h.2 j y q
    exact ⟨w, by rw [List.getElem?_set_ne hj]; exact a, b⟩
theorem RE.setN {K : PySem.W.Frag} {W : Hp} {μ : List Addr} {σ : AEnv} {τ : L2.St} {u : Option V} (h : RE K W μ σ τ) (i : Nat) : RE K W μ (σ.set i none) (τ.set i u) := by
  refine ⟨by simp [h.1], fun j y q => ?_⟩
  by_cases hj : i = j
  · subst hj
    rw [List.getElem?_set] at q
    simp only [if_true] at q
    split at q <;> cases q
  · rw [List.getElem?_set_ne hj] at q
    obtain ⟨w, a, b⟩ := h.2 j y q
    exact ⟨w, by rw [List.getElem?_set_ne hj]; exact a, b⟩

/-- behind this: the state W μ M H of base B, beyond W1 μ1 -/
structure Go (B : Base) (K : PySem.W.Frag) (W1 : Hp) (μ1 : List Addr) (W : Hp) (μ : List Addr) (M : List MO) (H : Hp) : Prop where
  ok : Ok B W μ H
  sim : Sim K W μ M H
  wext : Same W1 W
  mext : ∃ e, μ = μ1 ++ e
theorem Go.trans {B : Base} {K : PySem.W.Frag} {W1 W2 W : Hp} {μ1 μ2 μ : List Addr} {M M' : List MO} {H H' : Hp} (a : Go B K W1 μ1 W2 μ2 M H) (b : Go B K W2 μ2 W μ M' H') : Go B K W1 μ1 W μ M' H' :=
  ⟨b.ok, b.sim, a.wext.trans b.wext, let ⟨e, h⟩ := a.mext; let ⟨f, g⟩ := b.mext; ⟨e ++ f, by rw [g, h, List.append_assoc]⟩⟩
theorem Go.refl {B : Base} {K : PySem.W.Frag} {W : Hp} {μ : List Addr} {M : List MO} {H : Hp} (o : Ok B W μ H) (s : Sim K W μ M H) : Go B K W μ W μ M H := ⟨o, s, fun _ _ h => h, ⟨[], by simp⟩⟩
theorem Go.ra {B : Base} {K : PySem.W.Frag} {W1 W : Hp} {μ1 μ : List Addr} {M : List MO} {H : Hp} (f : Go B K W1 μ1 W μ M H) {x : AV} {v : V} (h : RA K W1 μ1 x v) : RA K W μ x v := by
  obtain ⟨e, rfl⟩ := f.mext
  exact RA.mono f.wext h
theorem Go.ras {B : Base} {K : PySem.W.Frag} {W1 W : Hp} {μ1 μ : List Addr} {M : List MO} {H : Hp} (f : Go B K W1 μ1 W μ M H) {x : List AV} {v : List V} (h : RAs K W1 μ1 x v) : RAs K W μ x v := by
  obtain ⟨e, rfl⟩ := f.mext
  exact RAs.mono f.wext h
theorem Go.re {B : Base} {K : PySem.W.Frag} {W1 W : Hp} {μ1 μ : List Addr} {M : List MO} {H : Hp} (f : Go B K W1 μ1 W μ M H) {σ : AEnv} {τ : L2.St} (h : RE K W1 μ1 σ τ) : RE K W μ σ τ := by
  obtain ⟨e, rfl⟩ := f.mext
  exact RE.mono f.wext h

section
variable (B : Base) (K : PySem.W.Frag)
/-- an expression, a test, arguments, a call on values, an operation on two values, a target, a statement, seen so -/
def AE (te : TE) (σ : AEnv) (M : List MO) (Φ : AV → List MO → Prop) : Prop := ∀ W μ H τ, Ok B W μ H → Sim K W μ M H → RE K W μ σ τ → ∀ Q : VK,
  (∀ x M' W' μ' H' v, Φ x M' → Go B K W μ W' μ' M' H' → RA K W' μ' x v → Q v H') → te τ H Q
def AT (tt : TT) (σ : AEnv) (M : List MO) (Φ : Bool → List MO → Prop) : Prop := ∀ W μ H τ, Ok B W μ H → Sim K W μ M H → RE K W μ σ τ → ∀ Q : Bool → Hp → Prop,
  (∀ b M' W' μ' H', Φ b M' → Go B K W μ W' μ' M' H' → Q b H') → tt τ H Q
def AA (ta : TA) (σ : AEnv) (M : List MO) (Φ : List AV → List MO → Prop) : Prop := ∀ W μ H τ, Ok B W μ H → Sim K W μ M H → RE K W μ σ τ → ∀ Q : List V → Hp → Prop,
  (∀ x M' W' μ' H' v, Φ x M' → Go B K W μ W' μ' M' H' → RAs K W' μ' x v → Q v H') → ta τ H Q
def AR (r : R2) (x y : AV) (M : List MO) (Φ : AV → List MO → Prop) : Prop := ∀ W μ H u w, Ok B W μ H → Sim K W μ M H → RA K W μ x u → RA K W μ y w → ∀ Q : VK,
  (∀ z M' W' μ' H' v, Φ z M' → Go B K W μ W' μ' M' H' → RA K W' μ' z v → Q v H') → r u w H Q
def AU (r : V → Hp → VK → Prop) (x : AV) (M : List MO) (Φ : AV → List MO → Prop) : Prop := ∀ W μ H u, Ok B W μ H → Sim K W μ M H → RA K W μ x u → ∀ Q : VK,
  (∀ z M' W' μ' H' v, Φ z M' → Go B K W μ W' μ' M' H' → RA K W' μ' z v → Q v H') → r u H Q
def AC (r : List V → Hp → VK → Prop) (xs : List AV) (M : List MO) (Φ : AV → List MO → Prop) : Prop := ∀ W μ H us, Ok B W μ H → Sim K W μ M H → RAs K W μ xs us → ∀ Q : VK,
  (∀ z M' W' μ' H' v, Φ z M' → Go B K W μ W' μ' M' H' → RA K W' μ' z v → Q v H') → r us H Q
def AM (r : V → List V → Hp → VK → Prop) (x : AV) (xs : List AV) (M : List MO) (Φ : AV → List MO → Prop) : Prop := ∀ W μ H u us, Ok B W μ H → Sim K W μ M H → RA K W μ x u → RAs K W μ xs us → ∀ Q : VK,
  (∀ z M' W' μ' H' v, Φ z M' → Go B K W μ W' μ' M' H' → RA K W' μ' z v → Q v H') → r u us H Q
def AG (g : TG) (x : AV) (σ : AEnv) (M : List MO) (Φ : AEnv → List MO → Prop) : Prop := ∀ W μ H τ v, Ok B W μ H → Sim K W μ M H → RE K W μ σ τ → RA K W μ x v → ∀ Q : L2.St → Hp → Prop,
  (∀ σ' M' W' μ' H' τ', Φ σ' M' → Go B K W μ W' μ' M' H' → RE K W' μ' σ' τ' → Q τ' H') → g v τ H Q
def AGs (g : TGs) (xs : List AV) (σ : AEnv) (M : List MO) (Φ : AEnv → List MO → Prop) : Prop := ∀ W μ H τ vs, Ok B W μ H → Sim K W μ M H → RE K W μ σ τ → RAs K W μ xs vs → ∀ Q : L2.St → Hp → Prop,
  (∀ σ' M' W' μ' H' τ', Φ σ' M' → Go B K W μ W' μ' M' H' → RE K W' μ' σ' τ' → Q τ' H') → g vs τ H Q
structure AEnds where
  nx : AEnv → List MO → Prop
  rt : AV → List MO → Prop
  bk : AEnv → List MO → Prop := fun _ _ => False
  ct : AEnv → List MO → Prop := fun _ _ => False
/-- W1 μ1: at least this is known -/
structure Fits (W1 : Hp) (μ1 : List Addr) (Φ : AEnds) (E : Ends) : Prop where
  nx : ∀ σ M W μ H τ, Φ.nx σ M → Go B K W1 μ1 W μ M H → RE K W μ σ τ → E.nx τ H
  rt : ∀ x M W μ H v, Φ.rt x M → Go B K W1 μ1 W μ M H → RA K W μ x v → E.rt v H
  bk : ∀ σ M W μ H τ, Φ.bk σ M → Go B K W1 μ1 W μ M H → RE K W μ σ τ → E.bk τ H
  ct : ∀ σ M W μ H τ, Φ.ct σ M → Go B K W1 μ1 W μ M H → RE K W μ σ τ → E.ct τ H
def AS (ts : TS) (σ : AEnv) (M : List MO) (Φ : AEnds) : Prop := ∀ W μ H τ, Ok B W μ H → Sim K W μ M H → RE K W μ σ τ → ∀ E : Ends, Fits B K W μ Φ E → ts E τ H
end
theorem Fits.mono {B : Base} {K : PySem.W.Frag} {W1 W : Hp} {μ1 μ : List Addr} {M : List MO} {H : Hp} {Φ : AEnds} {E : Ends} (f : Fits B K W1 μ1 Φ E) (a : Go B K W1 μ1 W μ M H) : Fits B K W μ Φ E :=
  ⟨fun σ M W' μ' H' τ p b r => f.nx σ M W' μ' H' τ p (a.trans b) r, fun x M W' μ' H' v p b r => f.rt x M W' μ' H' v p (a.trans b) r, fun σ M W' μ' H' τ p b r => f.bk σ M W' μ' H' τ p (a.trans b) r, fun σ M W' μ' H' τ p b r => f.ct σ M W' μ' H' τ p (a.trans b) r⟩
end Al

namespace Al
open PySem L2
section
variable {B : Base} {K : PySem.W.Frag} {σ : AEnv} {M : List MO} {Φ : AV → List MO → Prop} {ta tb te : TE} {r : R2} {x y : AV}
/-! ### expressions -/
theorem ae_var {i : Nat} {x : AV} (h : σ[i]? = some (some x)) (k : Φ x M) : AE B K (tVar i) σ M Φ := fun W μ H τ o s e Q q =>
  let ⟨v, h1, h2⟩ := e.2 i x h
  ⟨v, h1, q _ _ _ _ _ _ k (.refl o s) h2⟩
theorem ae_int {i : Int} (k : Φ (.d (.int i)) M) : AE B K (tC (.int i)) σ M Φ := fun W μ H τ o s e Q q => q _ _ _ _ _ _ k (.refl o s) rfl
theorem ae_bl {b : Bool} (k : Φ (.d (.bl b)) M) : AE B K (tC (.bl b)) σ M Φ := fun W μ H τ o s e Q q => q _ _ _ _ _ _ k (.refl o s) rfl
theorem ae_non (k : Φ (.d .non) M) : AE B K (tC .non) σ M Φ := fun W μ H τ o s e Q q => q _ _ _ _ _ _ k (.refl o s) rfl
theorem ae_str {z : Str} (k : Φ (.d (.str z)) M) : AE B K (tC (.str z)) σ M Φ := fun W μ H τ o s e Q q => q _ _ _ _ _ _ k (.refl o s) rfl
theorem ae_ty {n : String} (k : Φ (.d (.ty n)) M) : AE B K (tC (.ty n)) σ M Φ := fun W μ H τ o s e Q q => q _ _ _ _ _ _ k (.refl o s) rfl
theorem ae_adr {a : Addr} (k : Φ (.d (.adr a)) M) : AE B K (tC (.ref a)) σ M Φ := fun W μ H τ o s e Q q => q _ _ _ _ _ _ k (.refl o s) rfl
theorem AE.imp {Φ' : AV → List MO → Prop} (h : AE B K te σ M Φ) (f : ∀ x M', Φ x M' → Φ' x M') : AE B K te σ M Φ' := fun W μ H τ o s e Q q =>
  h W μ H τ o s e Q fun x M' W' μ' H' v p fi r => q x M' W' μ' H' v (f _ _ p) fi r
theorem ae_op (h : AE B K ta σ M fun x M1 => AE B K tb σ M1 fun y M2 => AR B K r x y M2 Φ) : AE B K (tOp r ta tb) σ M Φ := fun W μ H τ o s e Q q =>
  h W μ H τ o s e _ fun x M1 W1 μ1 H1 v p f1 r1 => p W1 μ1 H1 τ f1.ok f1.sim (f1.re e) _ fun y M2 W2 μ2 H2 w p2 f2 r2 =>
    p2 W2 μ2 H2 v w f2.ok f2.sim (f2.ra r1) r2 _ fun z M3 W3 μ3 H3 v3 p3 f3 r3 => q z M3 W3 μ3 H3 v3 p3 ((f1.trans f2).trans f3) r3
theorem ae_un {r : V → Hp → VK → Prop} (h : AE B K ta σ M fun x M1 => AU B K r x M1 Φ) : AE B K (tUn r ta) σ M Φ := fun W μ H τ o s e Q q =>
  h W μ H τ o s e _ fun x M1 W1 μ1 H1 v p f1 r1 => p W1 μ1 H1 v f1.ok f1.sim r1 _ fun z M3 W3 μ3 H3 v3 p3 f3 r3 => q z M3 W3 μ3 H3 v3 p3 (f1.trans f3) r3
theorem aa_nil {Φ : List AV → List MO → Prop} (k : Φ [] M) : AA B K tNil σ M Φ := fun W μ H τ o s e Q q => q _ _ _ _ _ _ k (.refl o s) rfl
theorem aa_cons {tr : TA} {Φ : List AV → List MO → Prop} (h : AE B K ta σ M fun x M1 => AA B K tr σ M1 fun xs M2 => Φ (x :: xs) M2) : AA B K (tCons ta tr) σ M Φ := fun W μ H τ o s e Q q =>
  h W μ H τ o s e _ fun x M1 W1 μ1 H1 v p f1 r1 => p W1 μ1 H1 τ f1.ok f1.sim (f1.re e) _ fun xs M2 W2 μ2 H2 vs p2 f2 r2 => q _ _ _ _ _ _ p2 (f1.trans f2) ⟨v, vs, rfl, f2.ra r1, r2⟩
theorem ae_cb {r : List V → Hp → VK → Prop} {ta : TA} (h : AA B K ta σ M fun xs M1 => AC B K r xs M1 Φ) : AE B K (tCB r ta) σ M Φ := fun W μ H τ o s e Q q =>
  h W μ H τ o s e _ fun xs M1 W1 μ1 H1 vs p f1 r1 => p W1 μ1 H1 vs f1.ok f1.sim r1 _ fun z M2 W2 μ2 H2 v p2 f2 r2 => q _ _ _ _ _ _ p2 (f1.trans f2) r2

/-! ### operators on data -/
theorem ar_i0 {g : Int → Int → Int} {i j : Int} (k : Φ (.d (.int (g i j))) M) : AR B K (rI0 fun i j => .int (g i j)) (.d (.int i)) (.d (.int j)) M Φ := fun W μ H u w o s hu hw Q q => by
  cases hu; cases hw
  exact ⟨i, j, rfl, rfl, q _ _ _ _ _ _ k (.refl o s) rfl⟩
theorem ar_b0 {g : Int → Int → Bool} {i j : Int} (k : Φ (.d (.bl (g i j))) M) : AR B K (rI0 fun i j => .bl (g i j)) (.d (.int i)) (.d (.int j)) M Φ := fun W μ H u w o s hu hw Q q => by
  cases hu; cases hw
  exact ⟨i, j, rfl, rfl, q _ _ _ _ _ _ k (.refl o s) rfl⟩
theorem ar_i {C : Int → Int → Prop} {g : Int → Int → Int} {i j : Int} (hc : C i j) (k : Φ (.d (.int (g i j))) M) : AR B K (rI C fun i j => .int (g i j)) (.d (.int i)) (.d (.int j)) M Φ := fun W μ H u w o s hu hw Q q => by
  cases hu; cases hw
  exact ⟨i, j, rfl, rfl, hc, q _ _ _ _ _ _ k (.refl o s) rfl⟩
theorem dec_int (i j : Int) : decide (V.int i = V.int j) = decide (i = j) := by
  by_cases h : i = j
  · subst h; simp
  · rw [decide_eq_false h, decide_eq_false (fun e => h (V.int.inj e))]
theorem dec_str (i j : Str) : decide (V.str i = V.str j) = decide (i = j) := by
  by_cases h : i = j
  · subst h; simp
  · rw [decide_eq_false h, decide_eq_false (fun e => h (V.str.inj e))]
theorem dec_bl (i j : Bool) : decide (V.bl i = V.bl j) = decide (i = j) := by
  by_cases h : i = j
  · subst h; simp
  · rw [decide_eq_false h, decide_eq_false (fun e => h (V.bl.inj e))]
theorem ar_eqI {i j : Int} (k : Φ (.d (.bl (decide (i = j)))) M) : AR B K rEq (.d (.int i)) (.d (.int j)) M Φ := fun W μ H u w o s hu hw Q q => by
  cases hu; cases hw
  exact ⟨rfl, by rw [dec_int]; exact q _ _ _ _ _ _ k (.refl o s) rfl⟩
theorem ar_neI {i j : Int} (k : Φ (.d (.bl (!decide (i = j)))) M) : AR B K rNe (.d (.int i)) (.d (.int j)) M Φ := fun W μ H u w o s hu hw Q q => by
  cases hu; cases hw
  exact ⟨rfl, by rw [dec_int]; exact q _ _ _ _ _ _ k (.refl o s) rfl⟩
theorem ar_eqS {i j : Str} (k : Φ (.d (.bl (decide (i = j)))) M) : AR B K rEq (.d (.str i)) (.d (.str j)) M Φ := fun W μ H u w o s hu hw Q q => by
  cases hu; cases hw
  exact ⟨rfl, by rw [dec_str]; exact q _ _ _ _ _ _ k (.refl o s) rfl⟩
theorem ar_neS {i j : Str} (k : Φ (.d (.bl (!decide (i = j)))) M) : AR B K rNe (.d (.str i)) (.d (.str j)) M Φ := fun W μ H u w o s hu hw Q q => by
  cases hu; cases hw
  exact ⟨rfl, by rw [dec_str]; exact q _ _ _ _ _ _ k (.refl o s) rfl⟩
theorem ar_eqB {i j : Bool} (k : Φ (.d (.bl (decide (i = j)))) M) : AR B K rEq (.d (.bl i)) (.d (.bl j)) M Φ := fun W μ H u w o s hu hw Q q => by
  cases hu; cases hw
  exact ⟨rfl, by rw [dec_bl]; exact q _ _ _ _ _ _ k (.refl o s) rfl⟩
theorem ar_neB {i j : Bool} (k : Φ (.d (.bl (!decide (i = j)))) M) : AR B K rNe (.d (.bl i)) (.d (.bl j)) M Φ := fun W μ H u w o s hu hw Q q => by
  cases hu; cases hw
  exact ⟨rfl, by rw [dec_bl]; exact q _ _ _ _ _ _ k (.refl o s) rfl⟩
theorem ar_addS {i j : Str} (hz : i.length + j.length ≤ sizeLine) (k : Φ (.d (.str (i ++ j))) M) : AR B K (fun x y H Q => ∃ i j, x = .str i ∧ y = .str j ∧ i.length + j.length ≤ sizeLine ∧ Q (.str (i ++ j)) H) (.d (.str i)) (.d (.str j)) M Φ := fun W μ H u w o s hu hw Q q => by
  cases hu; cases hw
  exact ⟨i, j, rfl, rfl, hz, q _ _ _ _ _ _ k (.refl o s) rfl⟩
def isNon : D → Bool | .non => true | _ => false
theorem rd_non {W : Hp} {x : D} {v : V} (h : RD K W x v) : decide (v = .non) = isNon x := by
  cases x with
  | non => cases h; rfl
  | bl b => cases h; rfl
  | int b => cases h; rfl
  | str b => cases h; rfl
  | ty b => cases h; rfl
  | adr b => cases h; rfl
  | tup l => obtain ⟨a, vs, rfl, _⟩ := h; rfl
  | lst l => obtain ⟨a, vs, rfl, _⟩ := h; rfl
  | scr l => obtain ⟨a, vs, rfl, _⟩ := h; rfl
  | ins C ns l => obtain ⟨a, dx, vs, rfl, _⟩ := h; rfl
theorem ar_isN {x : D} (k : Φ (.d (.bl (isNon x))) M) : AR B K (fun x y H Q => y = .non ∧ Q (.bl (decide (x = .non))) H) (.d x) (.d .non) M Φ := fun W μ H u w o s hu hw Q q => by
  cases hw
  refine ⟨rfl, ?_⟩
  rw [rd_non hu]
  exact q _ _ _ _ _ _ k (.refl o s) rfl
theorem ar_notN {x : D} (k : Φ (.d (.bl (!isNon x))) M) : AR B K (fun x y H Q => y = .non ∧ Q (.bl (!decide (x = .non))) H) (.d x) (.d .non) M Φ := fun W μ H u w o s hu hw Q q => by
  cases hw
  refine ⟨rfl, ?_⟩
  rw [rd_non hu]
  exact q _ _ _ _ _ _ k (.refl o s) rfl

/-! ### subscripts -/
theorem atI_rel {W : Hp} {l : List D} {vs : List V} {i : Int} {d : D} (r : RDs K W l vs) (h : atI l i = some d) : ∃ v, atI vs i = some v ∧ RD K W d v := by
  unfold atI at h ⊢
  rw [← r.length]
  cases e : ixN l.length i with
  | none => rw [e] at h; cases h
  | some j =>
    rw [e] at h
    exact r.get h
theorem ar_ixM {k : Nat} {i : Int} {l : List D} {d : D} (hm : M[k]? = some (.lst l)) (ha : atI l i = some d) (q : Φ (.d d) M) : AR B K (rIxL K) (.m k) (.d (.int i)) M Φ := fun W μ H u w o s hu hw Q qq => by
  obtain ⟨a, h1, rfl⟩ := hu
  cases hw
  obtain ⟨vs, h2, h3⟩ := s.ob k a _ h1 hm
  obtain ⟨v, h4, h5⟩ := atI_rel h3 ha
  exact ⟨a, vs, i, v, rfl, rfl, .inl (.inl h2), h4, qq _ _ _ _ _ _ q (.refl o s) h5⟩
theorem ar_ixL {i : Int} {l : List D} {d : D} (ha : atI l i = some d) (q : Φ (.d d) M) : AR B K (rIxL K) (.d (.lst l)) (.d (.int i)) M Φ := fun W μ H u w o s hu hw Q qq => by
  obtain ⟨a, vs, rfl, h2, h3⟩ := hu
  cases hw
  obtain ⟨v, h4, h5⟩ := atI_rel h3 ha
  exact ⟨a, vs, i, v, rfl, rfl, SqL.of (s.sub _ _ h2), h4, qq _ _ _ _ _ _ q (.refl o s) h5⟩
theorem ar_ixS {i : Int} {l : List D} {d : D} (ha : atI l i = some d) (q : Φ (.d d) M) : AR B K (rIxL K) (.d (.scr l)) (.d (.int i)) M Φ := fun W μ H u w o s hu hw Q qq => by
  obtain ⟨a, vs, rfl, h2, h3⟩ := hu
  cases hw
  obtain ⟨v, h4, h5⟩ := atI_rel h3 ha
  exact ⟨a, vs, i, v, rfl, rfl, s.sub.seq h2, h4, qq _ _ _ _ _ _ q (.refl o s) h5⟩
theorem ar_ixT {i : Int} {l : List D} {d : D} (ha : atI l i = some d) (q : Φ (.d d) M) : AR B K (rIxT K) (.d (.tup l)) (.d (.int i)) M Φ := fun W μ H u w o s hu hw Q qq => by
  obtain ⟨a, vs, rfl, h2, h3⟩ := hu
  cases hw
  obtain ⟨v, h4, h5⟩ := atI_rel h3 ha
  exact ⟨a, vs, i, v, rfl, rfl, sqt_mono s.sub h2, h4, qq _ _ _ _ _ _ q (.refl o s) h5⟩

/-! ### laying new objects -/
theorem same_upd {H : Hp} {p : Addr} {o : HO} (h : H p = none) : Same H (upd H p o) := fun b u e => by
  rw [upd_ne (ne_of_none e h)]; exact e
/-- a new object that never changes -/
theorem go_new {W : Hp} {μ : List Addr} {H : Hp} {p : Addr} {u : HO} (o : Ok B W μ H) (s : Sim K W μ M H) (hp : H p = none) : Go B K W μ (upd W p u) μ M (upd H p u) := by
  have wp : W p = none := by
    cases e : W p with
    | none => rfl
    | some u => rw [s.sub p u e] at hp; cases hp
  have np : ∀ a ∈ μ, a ≠ p := fun a ha e => by
    obtain ⟨u, h⟩ := s.live ha
    rw [e, hp] at h; cases h
  refine ⟨⟨fun a v h => same_upd wp a v (o.wsub a v h), fun a v h => ?_, fun a v h hx => same_upd hp a v (o.fr a v h hx), o.pre, fun a h => ?_⟩, ⟨fun a v h => ?_, s.nd, s.len, fun a h => ?_, fun k a v h1 h2 => ?_⟩, same_upd wp, ⟨[], by simp⟩⟩
  · by_cases e : a = p
    · subst e; exact .inr (o.live _ hp)
    · rw [upd_ne e] at h; exact o.wnew a v h
  · by_cases e : a = p
    · subst e; exact o.live _ hp
    · rw [upd_ne e] at h; exact o.live a h
  · by_cases e : a = p
    · subst e; rw [upd_same] at h ⊢; exact h
    · rw [upd_ne e] at h ⊢; exact s.sub a v h
  · rw [upd_ne (np a h)]; exact s.out a h
  · have q := (s.ob k a v h1 h2).mono (μ' := []) (same_upd (o := u) wp) (H' := upd H p u) (fun w e => by rw [upd_ne (np a (List.mem_of_getElem? h1))]; exact e)
    rwa [List.append_nil] at q
/-- a new mutable object -/
theorem go_mut {W : Hp} {μ : List Addr} {H : Hp} {p : Addr} {u : HO} {mo : MO} (o : Ok B W μ H) (s : Sim K W μ M H) (hp : H p = none) (ho : OR K W (μ ++ [p]) (upd H p u) mo p) : Go B K W μ W (μ ++ [p]) (M ++ [mo]) (upd H p u) := by
  have wp : W p = none := by
    cases e : W p with
    | none => rfl
    | some u => rw [s.sub p u e] at hp; cases hp
  have np : ∀ a ∈ μ, a ≠ p := fun a ha e => by
    obtain ⟨u, h⟩ := s.live ha
    rw [e, hp] at h; cases h
  obtain ⟨ext, e1, e2⟩ := o.pre
  refine ⟨⟨o.wsub, o.wnew, fun a v h hx => same_upd hp a v (o.fr a v h hx), ⟨ext ++ [p], by rw [e1, List.append_assoc], fun x hx => ?_⟩, fun a h => ?_⟩, ⟨fun a v h => ?_, ?_, by simp [s.len], fun a h => ?_, fun k a v h1 h2 => ?_⟩, fun _ _ h => h, ⟨[p], rfl⟩⟩
  · rcases List.mem_append.mp hx with hx | hx
    · exact e2 x hx
    · rw [List.mem_singleton.mp hx]; exact o.live p hp
  · by_cases e : a = p
    · subst e; exact o.live _ hp
    · rw [upd_ne e] at h; exact o.live a h
  · have : a ≠ p := fun e => by rw [e, wp] at h; cases h
    rw [upd_ne this]; exact s.sub a v h
  · refine List.nodup_append.mpr ⟨s.nd, by simp, fun a ha b hb e => ?_⟩
    rw [List.mem_singleton.mp hb] at e
    exact np a ha e
  · rcases List.mem_append.mp h with h | h
    · exact s.out a h
    · rw [List.mem_singleton.mp h]; exact wp
  · rw [List.getElem?_append] at h1 h2
    by_cases hk : k < μ.length
    · rw [if_pos hk] at h1
      rw [if_pos (by rw [← s.len]; exact hk)] at h2
      exact (s.ob k a v h1 h2).mono (fun _ _ h => h) (fun w e => by rw [upd_ne (np a (List.mem_of_getElem? h1))]; exact e)
    · rw [if_neg hk] at h1
      rw [if_neg (by rw [← s.len]; exact hk)] at h2
      have hk0 : k - μ.length = 0 := by
        have := (List.getElem?_eq_some_iff.mp h1).1
        simp at this
        omega
      rw [hk0] at h1
      have hk1 : k - M.length = 0 := by rw [← s.len]; exact hk0
      rw [hk1] at h2
      simp at h1 h2
      subst h1; subst h2
      exact ho
theorem ae_tup {ta : TA} (h : AA B K ta σ M fun xs M1 => ∃ ds : List D, xs = ds.map AV.d ∧ ds.length ≤ sizeLine ∧ Φ (.d (.tup ds)) M1) : AE B K (tTup ta) σ M Φ := fun W μ H τ o s e Q q =>
  h W μ H τ o s e _ fun xs M1 W1 μ1 H1 vs ⟨ds, e1, hz, p⟩ f1 r1 => by
    subst e1
    have r2 := r1.of_ds
    refine ⟨by rw [← r2.length]; exact hz, fun a ha => ?_⟩
    have f2 := go_new (u := .tup vs) f1.ok f1.sim ha
    exact q _ _ _ _ _ _ p (f1.trans f2) ⟨a, vs, rfl, .inl (.inl upd_same), RDs.mono f2.wext r2⟩
/-- a list that never changes -/
theorem ae_lst {ta : TA} (h : AA B K ta σ M fun xs M1 => ∃ ds : List D, xs = ds.map AV.d ∧ ds.length ≤ sizeLine ∧ Φ (.d (.lst ds)) M1) : AE B K (tLst ta) σ M Φ := fun W μ H τ o s e Q q =>
  h W μ H τ o s e _ fun xs M1 W1 μ1 H1 vs ⟨ds, e1, hz, p⟩ f1 r1 => by
    subst e1
    have r2 := r1.of_ds
    refine ⟨by rw [← r2.length]; exact hz, fun a ha => ?_⟩
    have f2 := go_new (u := .lst vs) f1.ok f1.sim ha
    exact q _ _ _ _ _ _ p (f1.trans f2) ⟨a, vs, rfl, upd_same, RDs.mono f2.wext r2⟩
/-- a list that will change -/
theorem ae_lstM {ta : TA} (h : AA B K ta σ M fun xs M1 => ∃ ds : List D, xs = ds.map AV.d ∧ ds.length ≤ sizeLine ∧ Φ (.m M1.length) (M1 ++ [.lst ds])) : AE B K (tLst ta) σ M Φ := fun W μ H τ o s e Q q =>
  h W μ H τ o s e _ fun xs M1 W1 μ1 H1 vs ⟨ds, e1, hz, p⟩ f1 r1 => by
    subst e1
    have r2 := r1.of_ds
    refine ⟨by rw [← r2.length]; exact hz, fun a ha => ?_⟩
    have f2 := go_mut (u := .lst vs) (mo := .lst ds) f1.ok f1.sim ha ⟨vs, upd_same, r2⟩
    refine q _ _ _ _ _ _ p (f1.trans f2) ⟨a, ?_, rfl⟩
    rw [← f1.sim.len, List.getElem?_append_right (Nat.le_refl _)]
    simp
/-- a mutable object written -/
theorem go_set {W : Hp} {μ : List Addr} {H : Hp} {k : Nat} {a : Addr} {u : HO} {mo : MO} (o : Ok B W μ H) (s : Sim K W μ M H) (hk : μ[k]? = some a) (ho : OR K W μ (upd H a u) mo a) : Go B K W μ W μ (M.set k mo) (upd H a u) := by
  have ha : a ∈ μ := List.mem_of_getElem? hk
  obtain ⟨ext, e1, e2⟩ := o.pre
  obtain ⟨v0, hv0⟩ := s.live ha
  refine ⟨⟨o.wsub, o.wnew, fun b v h hx => ?_, o.pre, fun b h => ?_⟩, ⟨fun b v h => ?_, s.nd, by simp [s.len], s.out, fun j b v h1 h2 => ?_⟩, fun _ _ h => h, ⟨[], by simp⟩⟩
  · have : b ≠ a := fun e => by
      subst e
      rw [e1] at ha
      rcases List.mem_append.mp ha with z | z
      · exact hx z
      · rw [e2 _ z] at h; cases h
    rw [upd_ne this]; exact o.fr b v h hx
  · by_cases e : b = a
    · subst e; rw [upd_same] at h; cases h
    · rw [upd_ne e] at h; exact o.live b h
  · have : b ≠ a := fun e => by rw [e, s.out a ha] at h; cases h
    rw [upd_ne this]; exact s.sub b v h
  · by_cases e : j = k
    · subst e
      rw [hk] at h1; cases h1
      have hl : j < M.length := by rw [← s.len]; exact (List.getElem?_eq_some_iff.mp hk).1
      rw [List.getElem?_set_self hl] at h2
      cases h2
      exact ho
    · rw [List.getElem?_set_ne (Ne.symm e)] at h2
      have : b ≠ a := fun z => by
        subst z
        obtain ⟨l1, q1⟩ := List.getElem?_eq_some_iff.mp h1
        obtain ⟨l2, q2⟩ := List.getElem?_eq_some_iff.mp hk
        exact e ((List.getElem_inj s.nd).mp (q1.trans q2.symm))
      have q := (s.ob j b v h1 h2).mono (μ' := []) (fun _ _ h => h) (H' := upd H a u) (fun w e => by rw [upd_ne this]; exact e)
      rwa [List.append_nil] at q
end
end Al

namespace Al
open PySem L2
/-! ### a def's promise, seen so -/
abbrev Exc := Addr × List (Str × D)
abbrev ASp := List AV → List MO → (AV → List MO → Prop) → (Exc → List MO → Prop) → Prop
/-- an exception: its class, its fields -/
def RX (K : PySem.W.Frag) (W H : Hp) (x : Exc) (cls : Value) (d : Option Addr) : Prop := cls = .ref x.1 ∧ ∃ dx vs, d = some dx ∧ H dx = some (.xd ((x.2.map (·.1)).zip vs)) ∧ RDs K W (x.2.map (·.2)) vs
def conc (K : PySem.W.Frag) (asp : ASp) : Sp := fun vs H Q E => ∃ W μ M xs, Sim K W μ M H ∧ RAs K W μ xs vs ∧
  asp xs M (fun x M' => ∀ W' μ' H' v, Go ⟨W, μ, H⟩ K W μ W' μ' M' H' → RA K W' μ' x v → Q v H')
    (fun x M' => ∀ W' μ' H' cls d, Go ⟨W, μ, H⟩ K W μ W' μ' M' H' → RX K W' H' x cls d → E cls d H')
/-- what is wanted of an exception -/
def EFits (B : Base) (K : PySem.W.Frag) (Ψ : Exc → List MO → Prop) (E : XK) : Prop := ∀ x M W μ H cls d, Ψ x M → Ok B W μ H → Sim K W μ M H → RX K W H x cls d → E cls d H
def Mono (asp : ASp) : Prop := ∀ xs M Φ Φ' Ψ Ψ', (∀ x M', Φ x M' → Φ' x M') → (∀ x M', Ψ x M' → Ψ' x M') → asp xs M Φ Ψ → asp xs M Φ' Ψ'

/-! ### calls: a part of the store is handed on -/
def subK (M : List MO) (ks : List Nat) : List MO := ks.map fun k => M.getD k (.lst [])
def putK : List MO → List Nat → List MO → List MO
  | M, k :: ks, o :: os => putK (M.set k o) ks os
  | M, _, _ => M
/-- the callee's numbers, renamed -/
def renV (n : Nat) (ks : List Nat) : AV → AV
  | .d x => .d x
  | .m j => .m (if j < ks.length then ks.getD j 0 else n + (j - ks.length))
def renO (n : Nat) (ks : List Nat) : MO → MO
  | .lst l => .lst l
  | .ins C ns l => .ins C ns (l.map (renV n ks))
theorem putK_len : ∀ (M : List MO) (ks : List Nat) (os : List MO), (putK M ks os).length = M.length
  | M, [], _ => by unfold putK; rfl
  | M, _ :: _, [] => by unfold putK; rfl
  | M, k :: ks, o :: os => by
    unfold putK
    rw [putK_len]; simp
theorem putK_out : ∀ (M : List MO) (ks : List Nat) (os : List MO) (j : Nat), j ∉ ks → (putK M ks os)[j]? = M[j]?
  | M, [], _, j, _ => by unfold putK; rfl
  | M, _ :: _, [], j, _ => by unfold putK; rfl
  | M, k :: ks, o :: os, j, h => by
    unfold putK
    rw [putK_out _ ks os j (fun z => h (List.mem_cons_of_mem _ z)), List.getElem?_set_ne]
    intro z; exact h (by rw [z]; exact List.mem_cons_self)
theorem putK_in : ∀ (M : List MO) (ks : List Nat) (os : List MO) (i k : Nat) (o : MO), ks.Nodup → (∀ k ∈ ks, k < M.length) → ks[i]? = some k → (putK M ks os)[k]? = some o → ks.length = os.length → os[i]? = some o
  | M, [], os, i, k, o, _, _, h, _, _ => by simp at h
  | M, _ :: _, [], i, k, o, _, _, h, _, e => by simp at e
  | M, k' :: ks, o' :: os, 0, k, o, nd, lt, h, q, e => by
    simp at h; subst h
    unfold putK at q
    rw [putK_out _ ks os k' (List.nodup_cons.mp nd).1, List.getElem?_set_self (lt _ List.mem_cons_self)] at q
    simpa using q
  | M, k' :: ks, o' :: os, i + 1, k, o, nd, lt, h, q, e => by
    unfold putK at q
    have := putK_in (M.set k' o') ks os i k o (List.nodup_cons.mp nd).2 (fun z hz => by simp; exact lt z (List.mem_cons_of_mem _ hz)) (by simpa using h) q (by simpa using e)
    simpa using this
section
variable {B : Base} {K : PySem.W.Frag} {W W' H H' : Hp} {μ μ' : List Addr} {M M2 : List MO} {ks : List Nat}
def subA (μ : List Addr) (ks : List Nat) : List Addr := ks.map fun k => μ.getD k 0
theorem subA_get {i k : Nat} (hk : ks[i]? = some k) (hl : k < μ.length) : (subA μ ks)[i]? = μ[k]? := by
  unfold subA
  rw [List.getElem?_map, hk]
  simp [List.getD, hl]
theorem subA_mem {a : Addr} (hl : ∀ k ∈ ks, k < μ.length) (h : a ∈ subA μ ks) : a ∈ μ := by
  unfold subA at h
  obtain ⟨k, hk, rfl⟩ := List.mem_map.mp h
  rw [List.getD, List.getElem?_eq_getElem (hl k hk)]
  exact List.getElem_mem _
theorem ra_ren {e : List Addr} {x : AV} {v : V} (hl : ∀ k ∈ ks, k < μ.length) (h : RA K W (subA μ ks ++ e) x v) : RA K W (μ ++ e) (renV μ.length ks x) v := by
  cases x with
  | d x => exact h
  | m j =>
    obtain ⟨a, h1, h2⟩ := h
    have sl : (subA μ ks).length = ks.length := by unfold subA; simp
    refine ⟨a, ?_, h2⟩
    show (μ ++ e)[if j < ks.length then ks.getD j 0 else μ.length + (j - ks.length)]? = some a
    rw [List.getElem?_append, sl] at h1
    by_cases hj : j < ks.length
    · rw [if_pos hj] at h1 ⊢
      have hk : ks[j]? = some (ks.getD j 0) := by rw [List.getD, List.getElem?_eq_getElem hj]; rfl
      have hm := hl _ (List.mem_of_getElem? hk)
      rw [subA_get hk hm] at h1
      rw [List.getElem?_append_left hm]
      exact h1
    · rw [if_neg hj] at h1 ⊢
      rw [List.getElem?_append_right (Nat.le_add_right _ _), Nat.add_sub_cancel_left]
      exact h1
theorem ras_ren {e : List Addr} (hl : ∀ k ∈ ks, k < μ.length) : ∀ {x : List AV} {v : List V}, RAs K W (subA μ ks ++ e) x v → RAs K W (μ ++ e) (x.map (renV μ.length ks)) v
  | [], _, h => h
  | d :: l, _, ⟨v, r, e1, h, t⟩ => ⟨v, r, e1, ra_ren hl h, ras_ren hl t⟩
theorem or_ren {e : List Addr} {o : MO} {a : Addr} (hl : ∀ k ∈ ks, k < μ.length) (h : OR K W (subA μ ks ++ e) H o a) : OR K W (μ ++ e) H (renO μ.length ks o) a := by
  cases o with
  | lst l => exact h
  | ins C ns l =>
    obtain ⟨dx, vs, h1, h2, h3⟩ := h
    exact ⟨dx, vs, h1, by simp [h2], ras_ren hl h3⟩
theorem ras_isD {μ' : List Addr} : ∀ {x : List AV} {v : List V}, RAs K W μ x v → x.all AV.isD = true → RAs K W μ' x v
  | [], _, h, _ => h
  | .d x :: l, _, ⟨v, r, e1, h, t⟩, q => ⟨v, r, e1, h, ras_isD t (by rw [List.all_cons, Bool.and_eq_true] at q; exact q.2)⟩
  | .m k :: l, _, ⟨v, r, e1, h, t⟩, q => by rw [List.all_cons, Bool.and_eq_true] at q; exact absurd q.1 Bool.false_ne_true
/-- what the callee is handed -/
theorem sim_sub (s : Sim K W μ M H) (nd : ks.Nodup) (hl : ∀ k ∈ ks, k < M.length) (hn : ks.all (fun k => (M.getD k (.lst [])).isD) = true) : Sim K W (subA μ ks) (subK M ks) H := by
  have hl' : ∀ k ∈ ks, k < μ.length := fun k h => by rw [s.len]; exact hl k h
  refine ⟨s.sub, ?_, by unfold subA subK; simp, fun a h => s.out a (subA_mem hl' h), fun i a o h1 h2 => ?_⟩
  · unfold subA
    refine List.pairwise_map.mpr (List.Pairwise.imp_of_mem (R := fun a b => a ≠ b) (fun {a b} ha hb h e => h ?_) nd)
    rw [List.getD, List.getD, List.getElem?_eq_getElem (hl' a ha), List.getElem?_eq_getElem (hl' b hb)] at e
    exact (List.getElem_inj s.nd).mp e
  · have hi : i < ks.length := by
      have := (List.getElem?_eq_some_iff.mp h1).1
      unfold subA at this
      simpa using this
    have hk : ks[i]? = some ks[i] := List.getElem?_eq_getElem hi
    have hm := List.getElem_mem hi
    rw [subA_get hk (hl' _ hm)] at h1
    unfold subK at h2
    rw [List.getElem?_map, hk] at h2
    simp only [Option.map_some, Option.some.injEq] at h2
    rw [List.getD, List.getElem?_eq_getElem (hl _ hm)] at h2
    simp only [Option.getD_some] at h2
    have q := s.ob _ a o h1 (by rw [List.getElem?_eq_getElem (hl _ hm), h2])
    cases o with
    | lst l => exact q
    | ins C ns l =>
      have z := List.all_eq_true.mp hn _ hm
      rw [List.getD, List.getElem?_eq_getElem (hl _ hm)] at z
      simp only [Option.getD_some] at z
      rw [h2] at z
      obtain ⟨dx, vs, e1, e2, e3⟩ := q
      exact ⟨dx, vs, e1, e2, ras_isD e3 z⟩
/-- behind the callee -/
theorem go_call {M2a M2b : List MO} (o : Ok B W μ H) (s : Sim K W μ M H) (nd : ks.Nodup) (hl : ∀ k ∈ ks, k < M.length) (h2 : M2a.length = ks.length) (f : Go ⟨W, subA μ ks, H⟩ K W (subA μ ks) W' μ' (M2a ++ M2b) H') :
    ∃ e, μ' = subA μ ks ++ e ∧ Go B K W μ W' (μ ++ e) (putK M ks (M2a.map (renO μ.length ks)) ++ M2b.map (renO μ.length ks)) H' := by
  have hl' : ∀ k ∈ ks, k < μ.length := fun k h => by rw [s.len]; exact hl k h
  have sl : (subA μ ks).length = ks.length := by unfold subA; simp
  obtain ⟨e, he⟩ := f.mext
  obtain ⟨e', he', hfr⟩ := f.ok.pre
  have : e' = e := by
    have := he'.symm.trans he
    exact List.append_cancel_left this
  subst this
  have hnd := f.sim.nd
  rw [he] at hnd
  have fresh : ∀ a ∈ μ, a ∉ e' := fun a ha h => by
    obtain ⟨u, hu⟩ := s.live ha
    have hz : H a = none := hfr a h
    rw [hz] at hu; cases hu
  refine ⟨e', he, o.trans (fun a h => subA_mem hl' h) f.ok he, ⟨f.sim.sub, ?_, ?_, fun a h => ?_, fun j a ob h1 hob => ?_⟩, f.wext, ⟨e', rfl⟩⟩
  · exact List.nodup_append.mpr ⟨s.nd, (List.nodup_append.mp hnd).2.1, fun a ha b hb z => fresh a ha (z ▸ hb)⟩
  · have := f.sim.len
    rw [he] at this
    simp [putK_len] at this ⊢
    rw [sl] at this
    rw [s.len]
    omega
  · rcases List.mem_append.mp h with h | h
    · cases q : W' a with
      | none => rfl
      | some u =>
        rcases f.ok.wnew a u q with z | z
        · have z : W a = some u := z
          rw [s.out a h] at z; cases z
        · obtain ⟨v, hv⟩ := s.live h
          have z : H a = none := z
          rw [z] at hv; cases hv
    · exact f.sim.out a (by rw [he]; exact List.mem_append_right _ h)
  · rw [List.getElem?_append, putK_len] at hob
    rw [List.getElem?_append] at h1
    by_cases hj : j < M.length
    · rw [if_pos hj] at hob
      rw [if_pos (by rw [s.len]; exact hj)] at h1
      by_cases hk : j ∈ ks
      · obtain ⟨i, hi, hij⟩ := List.getElem_of_mem hk
        have hi' : ks[i]? = some j := by rw [← hij]; exact List.getElem?_eq_getElem hi
        have q := putK_in M ks (M2a.map (renO μ.length ks)) i j ob nd hl hi' hob (by simp [h2])
        rw [List.getElem?_map] at q
        cases e2 : M2a[i]? with
        | none => rw [e2] at q; cases q
        | some ob' =>
          rw [e2] at q
          simp only [Option.map_some, Option.some.injEq] at q
          subst q
          have z := f.sim.ob i a ob' (by rw [he, List.getElem?_append_left (by rw [sl]; exact hi), subA_get hi' (by rw [s.len]; exact hj)]; exact h1) (by rw [List.getElem?_append_left (by omega)]; exact e2)
          rw [he] at z
          exact or_ren hl' z
      · rw [putK_out _ _ _ _ hk] at hob
        have nm : a ∉ subA μ ks := fun hm => by
          unfold subA at hm
          obtain ⟨k, hk1, hk2⟩ := List.mem_map.mp hm
          rw [List.getD, List.getElem?_eq_getElem (hl' k hk1)] at hk2
          obtain ⟨l1, q1⟩ := List.getElem?_eq_some_iff.mp h1
          have : k = j := (List.getElem_inj s.nd).mp (hk2.trans q1.symm)
          exact hk (this ▸ hk1)
        exact (s.ob j a ob h1 hob).mono f.wext fun u hu => f.ok.fr a u hu nm
    · rw [if_neg hj] at hob
      rw [if_neg (by rw [s.len]; exact hj)] at h1
      rw [List.getElem?_map] at hob
      cases e2 : M2b[j - M.length]? with
      | none => rw [e2] at hob; cases hob
      | some ob' =>
        rw [e2] at hob
        simp only [Option.map_some, Option.some.injEq] at hob
        subst hob
        have z := f.sim.ob (ks.length + (j - M.length)) a ob' (by rw [he, List.getElem?_append_right (by rw [sl]; omega), sl, Nat.add_sub_cancel_left, ← s.len]; exact h1)
          (by rw [List.getElem?_append_right (by omega), h2, Nat.add_sub_cancel_left]; exact e2)
        rw [he] at z
        exact or_ren hl' z
/-- the callee's wish, from the caller's: asp of the handed part; xs' the arguments by the callee's numbers -/
def Sent (asp : ASp) (xs : List AV) (M : List MO) (Φ : AV → List MO → Prop) (Ψ : Exc → List MO → Prop) : Prop :=
  ∃ (ks : List Nat) (xs' : List AV), ks.Nodup ∧ ks.all (fun k => decide (k < M.length)) = true ∧ ks.all (fun k => (M.getD k (.lst [])).isD) = true ∧ xs = xs'.map (renV M.length ks) ∧ xs'.all (AV.below ks.length) = true ∧
    asp xs' (subK M ks) (fun x M' => ∃ Ma Mb, M' = Ma ++ Mb ∧ Ma.length = ks.length ∧ Φ (renV M.length ks x) (putK M ks (Ma.map (renO M.length ks)) ++ Mb.map (renO M.length ks)))
      (fun x M' => ∃ Ma Mb, M' = Ma ++ Mb ∧ Ma.length = ks.length ∧ Ψ x (putK M ks (Ma.map (renO M.length ks)) ++ Mb.map (renO M.length ks)))
theorem ras_back (hl : ∀ k ∈ ks, k < μ.length) : ∀ {xs : List AV} {vs : List V}, (∀ j, AV.m j ∈ xs → j < ks.length) → RAs K W μ (xs.map (renV μ.length ks)) vs → RAs K W (subA μ ks) xs vs
  | [], _, _, h => h
  | x :: l, _, hx, ⟨v, r, e1, h, t⟩ => ⟨v, r, e1, by
      cases x with
      | d x => exact h
      | m j =>
        have hj := hx j List.mem_cons_self
        obtain ⟨a, h1, h2⟩ := h
        have hk : ks[j]? = some (ks.getD j 0) := by rw [List.getD, List.getElem?_eq_getElem hj]; rfl
        rw [if_pos hj] at h1
        refine ⟨a, ?_, h2⟩
        rw [subA_get hk (hl _ (List.mem_of_getElem? hk))]
        exact h1, ras_back hl (fun j hj => hx j (List.mem_cons_of_mem _ hj)) t⟩
theorem sent_run {asp : ASp} (mono : Mono asp) {xs : List AV} {vs : List V} {Φ : AV → List MO → Prop} {Ψ : Exc → List MO → Prop} {Q : VK} {E : XK} (o : Ok B W μ H) (s : Sim K W μ M H) (r : RAs K W μ xs vs) (h : Sent asp xs M Φ Ψ)
    (q : ∀ z M' W' μ' H' v, Φ z M' → Go B K W μ W' μ' M' H' → RA K W' μ' z v → Q v H') (qe : EFits B K Ψ E) : conc K asp vs H Q E := by
  obtain ⟨ks, xs', nd, hl, hn, rfl, hx, ha⟩ := h
  have hl : ∀ k ∈ ks, k < M.length := fun k hk => of_decide_eq_true (List.all_eq_true.mp hl k hk)
  have hx : ∀ j, AV.m j ∈ xs' → j < ks.length := fun j hj => of_decide_eq_true (List.all_eq_true.mp hx _ hj)
  have hl' : ∀ k ∈ ks, k < μ.length := fun k h => by rw [s.len]; exact hl k h
  refine ⟨W, subA μ ks, subK M ks, xs', sim_sub s nd hl hn, ras_back hl' hx (by rw [s.len]; exact r), mono _ _ _ _ _ _ (fun x M' ⟨Ma, Mb, e, h2, p⟩ W' μ' H' v f rv => ?_) (fun x M' ⟨Ma, Mb, e, h2, p⟩ W' μ' H' cls d f rx => ?_) ha⟩
  · subst e
    obtain ⟨e', he, f2⟩ := go_call o s nd hl h2 f
    subst he
    rw [s.len] at f2
    exact q _ _ _ _ _ _ p f2 (by rw [← s.len]; exact ra_ren hl' rv)
  · subst e
    obtain ⟨e', he, f2⟩ := go_call o s nd hl h2 f
    subst he
    rw [s.len] at f2
    exact qe _ _ _ _ _ _ _ p f2.ok f2.sim rx
variable {σ : AEnv} {Φ : AV → List MO → Prop} {ta : TA}
/-- f(..) -/
theorem ae_call {asp : ASp} {dvs : List V} {das : List AV} {E : XK} {Ψ : Exc → List MO → Prop} (mono : Mono asp) (qe : EFits B K Ψ E) (hd : ∀ W μ, RAs K W μ das dvs) (h : AA B K ta σ M fun xs M1 => Sent asp (xs ++ das) M1 Φ Ψ) : AE B K (tCall (conc K asp) dvs E ta) σ M Φ := fun W μ H τ o s e Q q =>
  h W μ H τ o s e _ fun xs M1 W1 μ1 H1 vs p f1 r1 => sent_run mono f1.ok f1.sim (RAs.append r1 (hd _ _)) p (fun z M' W' μ' H' v p2 f2 r2 => q _ _ _ _ _ _ p2 (f1.trans f2) r2) qe
theorem ae_callK {asp : ASp} {gV : List V → List V → List V} {gA : List AV → List AV → List AV} {E : XK} {tk : TA} {Ψ : Exc → List MO → Prop} (mono : Mono asp) (qe : EFits B K Ψ E) (hg : ∀ W μ xs ys vs zs, RAs K W μ xs vs → RAs K W μ ys zs → RAs K W μ (gA xs ys) (gV vs zs))
    (h : AA B K ta σ M fun xs M1 => AA B K tk σ M1 fun ys M2 => Sent asp (gA xs ys) M2 Φ Ψ) : AE B K (tCallK (conc K asp) gV E ta tk) σ M Φ := fun W μ H τ o s e Q q =>
  h W μ H τ o s e _ fun xs M1 W1 μ1 H1 vs p f1 r1 => p W1 μ1 H1 τ f1.ok f1.sim (f1.re e) _ fun ys M2 W2 μ2 H2 zs p2 f2 r2 =>
    sent_run mono f2.ok f2.sim (hg _ _ _ _ _ _ (f2.ras r1) r2) p2 (fun z M' W' μ' H' v p3 f3 r3 => q _ _ _ _ _ _ p3 ((f1.trans f2).trans f3) r3) qe
theorem efits_none {E : XK} : EFits B K (fun _ _ => False) E := fun _ _ _ _ _ _ _ h => h.elim
end
end Al

namespace Al
open PySem L2
section
variable {B : Base} {K : PySem.W.Frag} {σ : AEnv} {M : List MO} {ta tb te : TE} {x y : AV}
/-! ### tests -/
section
variable {Φ : Bool → List MO → Prop} {t u : TT}
theorem at_test (h : AE B K te σ M fun x M1 => ∃ b, x = .d (.bl b) ∧ Φ b M1) : AT B K (tTest te) σ M Φ := fun W μ H τ o s e Q q =>
  h W μ H τ o s e _ fun x M1 W1 μ1 H1 v ⟨b, e1, p⟩ f1 r1 => by subst e1; exact ⟨b, r1, q _ _ _ _ _ p f1⟩
theorem at_b (h : AE B K te σ M fun x M1 => ∃ b, x = .d (.bl b) ∧ Φ b M1) : AT B K (tB te) σ M Φ := fun W μ H τ o s e Q q =>
  h W μ H τ o s e _ fun x M1 W1 μ1 H1 v ⟨b, e1, p⟩ f1 r1 => by subst e1; exact ⟨b, r1, q _ _ _ _ _ p f1⟩
theorem at_and (h : AT B K t σ M fun b M1 => (b = true → AT B K u σ M1 Φ) ∧ (b = false → Φ false M1)) : AT B K (tAnd t u) σ M Φ := fun W μ H τ o s e Q q =>
  h W μ H τ o s e _ fun b M1 W1 μ1 H1 ⟨p1, p2⟩ f1 => by
    cases b with
    | true => exact iteT (p1 rfl W1 μ1 H1 τ f1.ok f1.sim (f1.re e) _ fun b M2 W2 μ2 H2 p f2 => q _ _ _ _ _ p (f1.trans f2))
    | false => exact iteF (q _ _ _ _ _ (p2 rfl) f1)
theorem at_or (h : AT B K t σ M fun b M1 => (b = true → Φ true M1) ∧ (b = false → AT B K u σ M1 Φ)) : AT B K (tOr t u) σ M Φ := fun W μ H τ o s e Q q =>
  h W μ H τ o s e _ fun b M1 W1 μ1 H1 ⟨p1, p2⟩ f1 => by
    cases b with
    | false => exact iteF (p2 rfl W1 μ1 H1 τ f1.ok f1.sim (f1.re e) _ fun b M2 W2 μ2 H2 p f2 => q _ _ _ _ _ p (f1.trans f2))
    | true => exact iteT (q _ _ _ _ _ (p1 rfl) f1)
theorem at_not (h : AT B K t σ M fun b M1 => Φ (!b) M1) : AT B K (tNot t) σ M Φ := fun W μ H τ o s e Q q =>
  h W μ H τ o s e _ fun b M1 W1 μ1 H1 p f1 => q _ _ _ _ _ p f1
theorem AT.imp {Φ' : Bool → List MO → Prop} (h : AT B K t σ M Φ) (f : ∀ x M', Φ x M' → Φ' x M') : AT B K t σ M Φ' := fun W μ H τ o s e Q q =>
  h W μ H τ o s e Q fun x M' W' μ' H' p fi => q x M' W' μ' H' (f _ _ p) fi
end
section
variable {Φ : AV → List MO → Prop} {t : TT}
theorem ae_if (h : AT B K t σ M fun b M1 => (b = true → AE B K ta σ M1 Φ) ∧ (b = false → AE B K tb σ M1 Φ)) : AE B K (tIf t ta tb) σ M Φ := fun W μ H τ o s e Q q =>
  h W μ H τ o s e _ fun b M1 W1 μ1 H1 ⟨p1, p2⟩ f1 => by
    cases b with
    | true => exact iteT (p1 rfl W1 μ1 H1 τ f1.ok f1.sim (f1.re e) _ fun b M2 W2 μ2 H2 v p f2 r => q _ _ _ _ _ _ p (f1.trans f2) r)
    | false => exact iteF (p2 rfl W1 μ1 H1 τ f1.ok f1.sim (f1.re e) _ fun b M2 W2 μ2 H2 v p f2 r => q _ _ _ _ _ _ p (f1.trans f2) r)
theorem ae_andV (h : AE B K ta σ M fun x M1 => ∃ b, x = .d (.bl b) ∧ (b = true → AE B K tb σ M1 Φ) ∧ (b = false → Φ (.d (.bl false)) M1)) : AE B K (tAndV ta tb) σ M Φ := fun W μ H τ o s e Q q =>
  h W μ H τ o s e _ fun x M1 W1 μ1 H1 v ⟨b, e1, p1, p2⟩ f1 r1 => by
    subst e1
    refine ⟨b, r1, ?_⟩
    cases b with
    | true => exact iteT (p1 rfl W1 μ1 H1 τ f1.ok f1.sim (f1.re e) _ fun b M2 W2 μ2 H2 v p f2 r => q _ _ _ _ _ _ p (f1.trans f2) r)
    | false => exact iteF (q _ _ _ _ _ _ (p2 rfl) f1 rfl)
theorem ae_orV (h : AE B K ta σ M fun x M1 => ∃ b, x = .d (.bl b) ∧ (b = true → Φ (.d (.bl true)) M1) ∧ (b = false → AE B K tb σ M1 Φ)) : AE B K (tOrV ta tb) σ M Φ := fun W μ H τ o s e Q q =>
  h W μ H τ o s e _ fun x M1 W1 μ1 H1 v ⟨b, e1, p1, p2⟩ f1 r1 => by
    subst e1
    refine ⟨b, r1, ?_⟩
    cases b with
    | false => exact iteF (p2 rfl W1 μ1 H1 τ f1.ok f1.sim (f1.re e) _ fun b M2 W2 μ2 H2 v p f2 r => q _ _ _ _ _ _ p (f1.trans f2) r)
    | true => exact iteT (q _ _ _ _ _ _ (p1 rfl) f1 rfl)
theorem ae_notV (h : AE B K ta σ M fun x M1 => ∃ b, x = .d (.bl b) ∧ Φ (.d (.bl (!b))) M1) : AE B K (tNotV ta) σ M Φ := fun W μ H τ o s e Q q =>
  h W μ H τ o s e _ fun x M1 W1 μ1 H1 v ⟨b, e1, p1⟩ f1 r1 => by
    subst e1
    exact ⟨b, r1, q _ _ _ _ _ _ p1 f1 rfl⟩
theorem ae_chain {r r' : R2} {tc : TE} (h : AE B K ta σ M fun x M1 => AE B K tb σ M1 fun y M2 => AR B K r x y M2 fun z M3 => ∃ b, z = .d (.bl b) ∧ (b = true → AE B K tc σ M3 fun w M4 => AR B K r' y w M4 Φ) ∧ (b = false → Φ (.d (.bl false)) M3)) : AE B K (tChain r r' ta tb tc) σ M Φ := fun W μ H τ o s e Q q =>
  h W μ H τ o s e _ fun x M1 W1 μ1 H1 v p f1 r1 => p W1 μ1 H1 τ f1.ok f1.sim (f1.re e) _ fun y M2 W2 μ2 H2 w p2 f2 r2 =>
    p2 W2 μ2 H2 v w f2.ok f2.sim (f2.ra r1) r2 _ fun z M3 W3 μ3 H3 v3 ⟨b, e3, p3, p4⟩ f3 r3 => by
      subst e3
      refine ⟨b, r3, ?_⟩
      have f13 := (f1.trans f2).trans f3
      cases b with
      | true => exact iteT (p3 rfl W3 μ3 H3 τ f3.ok f3.sim (f13.re e) _ fun w4 M4 W4 μ4 H4 v4 p4 f4 r4 => p4 W4 μ4 H4 w v4 f4.ok f4.sim ((f3.trans f4).ra r2) r4 _ fun z5 M5 W5 μ5 H5 v5 p5 f5 r5 => q _ _ _ _ _ _ p5 ((f13.trans f4).trans f5) r5)
      | false => exact iteF (q _ _ _ _ _ _ (p4 rfl) f13 rfl)
end

/-! ### targets, statements -/
section
variable {Φ : AEnv → List MO → Prop} {g : TG}
theorem ag_name {i : Nat} (k : Φ (σ.set i (some x)) M) : AG B K (gName i) x σ M Φ := fun W μ H τ v o s e r Q q => q _ _ _ _ _ _ k (.refl o s) (e.set r i)
theorem ags_nil (k : Φ σ M) : AGs B K gNil [] σ M Φ := fun W μ H τ v o s e r Q q => ⟨r, q _ _ _ _ _ _ k (.refl o s) e⟩
theorem ags_cons {gs : TGs} {xs : List AV} (h : AG B K g x σ M fun σ1 M1 => AGs B K gs xs σ1 M1 Φ) : AGs B K (gCons g gs) (x :: xs) σ M Φ := fun W μ H τ v o s e r Q q => by
  obtain ⟨a, b, rfl, r1, r2⟩ := r
  exact ⟨a, b, rfl, h W μ H τ a o s e r1 _ fun σ1 M1 W1 μ1 H1 τ1 p f1 e1 => p W1 μ1 H1 τ1 b f1.ok f1.sim e1 (f1.ras r2) _ fun σ2 M2 W2 μ2 H2 τ2 p2 f2 e2 => q _ _ _ _ _ _ p2 (f1.trans f2) e2⟩
theorem ras_ds {W : Hp} {μ : List Addr} : ∀ {l : List D} {vs : List V}, RDs K W l vs → RAs K W μ (l.map AV.d) vs
  | [], _, h => h
  | d :: l, _, ⟨v, r, e1, h, t⟩ => ⟨v, r, e1, h, ras_ds t⟩
theorem ag_tup {n : Nat} {gs : TGs} {ds : List D} (hn : ds.length = n) (h : AGs B K gs (ds.map AV.d) σ M Φ) : AG B K (gTup K n gs) (.d (.tup ds)) σ M Φ := fun W μ H τ v o s e r Q q => by
  obtain ⟨a, vs, rfl, h1, h2⟩ := r
  exact ⟨a, vs, rfl, sqt_mono s.sub h1, by rw [← h2.length]; exact hn, h W μ H τ vs o s e (ras_ds h2) Q q⟩
theorem ag_lst {n : Nat} {gs : TGs} {ds : List D} (hn : ds.length = n) (h : AGs B K gs (ds.map AV.d) σ M Φ) : AG B K (gLst K n gs) (.d (.lst ds)) σ M Φ := fun W μ H τ v o s e r Q q => by
  obtain ⟨a, vs, rfl, h1, h2⟩ := r
  exact ⟨a, vs, rfl, SqL.of (s.sub _ _ h1), by rw [← h2.length]; exact hn, h W μ H τ vs o s e (ras_ds h2) Q q⟩
/-- o[i] = x, o a mutable list -/
theorem ag_sub {to ti : TE} (h : AE B K to σ M fun o M1 => AE B K ti σ M1 fun i M2 => ∃ k z l j d, o = .m k ∧ i = .d (.int z) ∧ M2[k]? = some (.lst l) ∧ ixN l.length z = some j ∧ x = .d d ∧ Φ σ (M2.set k (.lst (l.set j d)))) : AG B K (gSub to ti rSetL) x σ M Φ := fun W μ H τ v o s e r Q q =>
  h W μ H τ o s e _ fun y M1 W1 μ1 H1 w p f1 r1 => p W1 μ1 H1 τ f1.ok f1.sim (f1.re e) _ fun i M2 W2 μ2 H2 u ⟨k, z, l, j, d, e1, e2, e3, e4, e5, p2⟩ f2 r2 => by
    subst e1; subst e2; subst e5
    obtain ⟨a, h1, h2⟩ := f2.ra r1
    subst h2
    cases r2
    obtain ⟨vs, h3, h4⟩ := f2.sim.ob k a _ h1 e3
    have r3 := (f1.trans f2).ra r
    refine ⟨a, vs, z, j, rfl, rfl, h3, by rw [← h4.length]; exact e4, ?_⟩
    have f3 := go_set (mo := .lst (l.set j d)) (u := .lst (vs.set j v)) f2.ok f2.sim h1 ⟨_, upd_same, RDs.set r3 j h4⟩
    exact q _ _ _ _ _ _ p2 ((f1.trans f2).trans f3) (((f1.trans f2).trans f3).re e)
end
section
variable {Φ : AEnds} {t u : TS} {g : TG}
theorem Go.fits {W1 W : Hp} {μ1 μ : List Addr} {M : List MO} {H : Hp} {E : Ends} (a : Go B K W1 μ1 W μ M H) (f : Fits B K W1 μ1 Φ E) : Fits B K W μ Φ E := f.mono a
theorem as_seq (h : AS B K t σ M { Φ with nx := fun σ1 M1 => AS B K u σ1 M1 Φ }) : AS B K (tSeq t u) σ M Φ := fun W μ H τ o s e E f =>
  h W μ H τ o s e _ ⟨fun σ1 M1 W1 μ1 H1 τ1 p g r => p W1 μ1 H1 τ1 g.ok g.sim r E (f.mono g), f.rt, f.bk, f.ct⟩
theorem as_next (k : Φ.nx σ M) : AS B K tNext σ M Φ := fun W μ H τ o s e E f => f.nx _ _ _ _ _ _ k (.refl o s) e
theorem as_asg (h : AE B K te σ M fun x M1 => AG B K g x σ M1 Φ.nx) : AS B K (tAsg te g) σ M Φ := fun W μ H τ o s e E f =>
  h W μ H τ o s e _ fun x M1 W1 μ1 H1 v p f1 r1 => p W1 μ1 H1 τ v f1.ok f1.sim (f1.re e) r1 _ fun σ2 M2 W2 μ2 H2 τ2 p2 f2 e2 => f.nx _ _ _ _ _ _ p2 (f1.trans f2) e2
theorem as_par {i j : Nat} {ta : TA} (h : AA B K ta σ M fun xs M1 => ∃ x y, xs = [x, y] ∧ Φ.nx ((σ.set i (some x)).set j (some y)) M1) : AS B K (tPar i j ta) σ M Φ := fun W μ H τ o s e E f =>
  h W μ H τ o s e _ fun xs M1 W1 μ1 H1 vs ⟨x, y, e1, p⟩ f1 r1 => by
    subst e1
    obtain ⟨v, r, rfl, r2, w, r', rfl, r3, r4⟩ := r1
    cases r4
    exact ⟨v, w, rfl, f.nx _ _ _ _ _ _ p f1 (((f1.re e).set r2 i).set r3 j)⟩
theorem as_aug {i : Nat} {f : Int → Int → Int} {a : Int} (hx : σ[i]? = some (some (.d (.int a)))) (h : AE B K te σ M fun y M1 => ∃ b, y = .d (.int b) ∧ Φ.nx (σ.set i (some (.d (.int (f a b))))) M1) : AS B K (tAug i te (ipI f)) σ M Φ := fun W μ H τ o s e E ff => by
  obtain ⟨v, h1, h2⟩ := e.2 i _ hx
  cases h2
  exact ⟨_, h1, h W μ H τ o s e _ fun y M1 W1 μ1 H1 w ⟨b, e1, p⟩ f1 r1 => by
    subst e1; cases r1
    exact ⟨a, b, rfl, rfl, ff.nx _ _ _ _ _ _ p f1 (RE.set (x := .d (.int (f a b))) (f1.re e) rfl i)⟩⟩
theorem as_drop (h : AE B K te σ M fun _ M1 => Φ.nx σ M1) : AS B K (tDrop te) σ M Φ := fun W μ H τ o s e E f =>
  h W μ H τ o s e _ fun x M1 W1 μ1 H1 v p f1 r1 => f.nx _ _ _ _ _ _ p f1 (f1.re e)
theorem as_ret (h : AE B K te σ M Φ.rt) : AS B K (tRet te) σ M Φ := fun W μ H τ o s e E f =>
  h W μ H τ o s e _ fun x M1 W1 μ1 H1 v p f1 r1 => f.rt _ _ _ _ _ _ p f1 r1
theorem as_retN (h : Φ.rt (.d .non) M) : AS B K tRetN σ M Φ := fun W μ H τ o s e E f => f.rt _ _ _ _ _ _ h (.refl o s) rfl
theorem as_break (k : Φ.bk σ M) : AS B K tBreak σ M Φ := fun W μ H τ o s e E f => f.bk _ _ _ _ _ _ k (.refl o s) e
theorem as_cont (k : Φ.ct σ M) : AS B K tCont σ M Φ := fun W μ H τ o s e E f => f.ct _ _ _ _ _ _ k (.refl o s) e
theorem as_if {c : TT} (h : AT B K c σ M fun b M1 => (b = true → AS B K t σ M1 Φ) ∧ (b = false → AS B K u σ M1 Φ)) : AS B K (tIfS c t u) σ M Φ := fun W μ H τ o s e E f =>
  h W μ H τ o s e _ fun b M1 W1 μ1 H1 ⟨p1, p2⟩ f1 => by
    cases b with
    | true => exact iteT (p1 rfl W1 μ1 H1 τ f1.ok f1.sim (f1.re e) E (f.mono f1))
    | false => exact iteF (p2 rfl W1 μ1 H1 τ f1.ok f1.sim (f1.re e) E (f.mono f1))
theorem AS.imp {Φ' : AEnds} (h : AS B K t σ M Φ) (f1 : ∀ σ M, Φ.nx σ M → Φ'.nx σ M) (f2 : ∀ σ M, Φ.rt σ M → Φ'.rt σ M) (f3 : ∀ σ M, Φ.bk σ M → Φ'.bk σ M) (f4 : ∀ σ M, Φ.ct σ M → Φ'.ct σ M) : AS B K t σ M Φ' := fun W μ H τ o s e E f =>
  h W μ H τ o s e E ⟨fun σ M W μ H τ p => f.nx σ M W μ H τ (f1 _ _ p), fun σ M W μ H τ p => f.rt σ M W μ H τ (f2 _ _ p), fun σ M W μ H τ p => f.bk σ M W μ H τ (f3 _ _ p), fun σ M W μ H τ p => f.ct σ M W μ H τ (f4 _ _ p)⟩
/-- self.f = e, self a mutable instance -/
theorem as_fld {to : TE} {f : Str} (h : AE B K te σ M fun y M1 => AE B K to σ M1 fun z M2 => ∃ k C ns l, z = .m k ∧ M2[k]? = some (.ins C ns l) ∧ Cls K C ∧ NoAttr K C f ∧ f ∉ ns ∧ ns.length < 1000 ∧ Φ.nx σ (M2.set k (.ins C (ns ++ [f]) (l ++ [y])))) : AS B K (sFld K to te f) σ M Φ := fun W μ H τ o s e E ff =>
  h W μ H τ o s e _ fun y M1 W1 μ1 H1 w p f1 r1 => p W1 μ1 H1 τ f1.ok f1.sim (f1.re e) _ fun z M2 W2 μ2 H2 u ⟨k, C, ns, l, e1, e2, c1, c2, c3, c4, p2⟩ f2 r2 => by
    subst e1
    obtain ⟨a, h1, rfl⟩ := r2
    obtain ⟨dx, vs, h3, h4, h5⟩ := f2.sim.ob k a _ h1 e2
    have hl : ns.length = vs.length := h4.trans h5.length
    have pz : ∀ (ns : List Str) (vs : List V), ns.length = vs.length → f ∉ ns → putF f w (ns.zip vs) = (ns ++ [f]).zip (vs ++ [w]) := by
      intro ns
      induction ns with
      | nil => intro vs h _; cases vs with
        | nil => rfl
        | cons _ _ => cases h
      | cons a ns ih => intro vs h hf; cases vs with
        | nil => cases h
        | cons v vs =>
          show (if a = f then _ else (a, v) :: putF f w (ns.zip vs)) = (a, v) :: (ns ++ [f]).zip (vs ++ [w])
          rw [if_neg (fun z => hf (by rw [z]; exact List.mem_cons_self)), ih vs (by simpa using h) (fun z => hf (List.mem_cons_of_mem _ z))]
    refine ⟨a, C, dx, ns.zip vs, rfl, h3, c1, c2, by rw [List.length_zip, ← hl, Nat.min_self]; exact c4, ?_⟩
    rw [pz ns vs hl c3]
    have f3 := go_set (mo := .ins C (ns ++ [f]) (l ++ [y])) (u := .ins C dx ((ns ++ [f]).zip (vs ++ [w]))) f2.ok f2.sim h1 ⟨dx, _, upd_same, by simp [h4], RAs.append h5 ⟨w, [], rfl, f2.ra r1, rfl⟩⟩
    exact ff.nx _ _ _ _ _ _ p2 ((f1.trans f2).trans f3) (((f1.trans f2).trans f3).re e)
end
/-! ### fields of an instance -/
theorem lookup_zip {W : Hp} {f : Str} {x : AV} {μ : List Addr} : ∀ {ns : List Str} {l : List AV} {vs : List V}, RAs K W μ l vs → (ns.zip l).lookup f = some x → ∃ v, (ns.zip vs).lookup f = some v ∧ RA K W μ x v
  | [], _, _, _, h => by cases h
  | n :: ns, [], _, _, h => by cases h
  | n :: ns, y :: l, _, ⟨v, r, e1, h1, h2⟩, h => by
    subst e1
    rw [List.zip_cons_cons, List.lookup_cons] at h ⊢
    cases e : (f == n) with
    | true => rw [e] at h; cases h; exact ⟨v, rfl, h1⟩
    | false => rw [e] at h; exact lookup_zip h2 h
theorem lookup_zipD {f : Str} {d : D} : ∀ {ns : List Str} {l : List D}, (ns.zip l).lookup f = some d → (ns.zip (l.map AV.d)).lookup f = some (.d d)
  | [], _, h => by cases h
  | n :: ns, [], h => by cases h
  | n :: ns, y :: l, h => by
    rw [List.map_cons, List.zip_cons_cons, List.lookup_cons] at *
    cases e : (f == n) with
    | true => rw [e] at h; cases h; rfl
    | false => rw [e] at h; exact lookup_zipD h
theorem ae_fld {Φ : AV → List MO → Prop} {f : Str} (h : AE B K ta σ M fun z M1 => ∃ C ns l d, z = .d (.ins C ns l) ∧ Cls K C ∧ NoAttr K C f ∧ (ns.zip l).lookup f = some d ∧ Φ (.d d) M1) : AE B K (tFld K ta f) σ M Φ := fun W μ H τ o s e Q q =>
  h W μ H τ o s e _ fun z M1 W1 μ1 H1 v ⟨C, ns, l, d, e1, c1, c2, hl, p⟩ f1 r1 => by
    subst e1
    obtain ⟨a, dx, vs, rfl, h1, h2, h3⟩ := r1
    obtain ⟨w, hw, rw_⟩ := lookup_zip (μ := μ1) (ras_ds h3) (lookup_zipD hl)
    exact ⟨a, C, dx, _, w, rfl, f1.sim.sub _ _ h1, c1, c2, hw, q _ _ _ _ _ _ p f1 rw_⟩
theorem ae_fldM {Φ : AV → List MO → Prop} {f : Str} (h : AE B K ta σ M fun z M1 => ∃ k C ns l x, z = .m k ∧ M1[k]? = some (.ins C ns l) ∧ Cls K C ∧ NoAttr K C f ∧ (ns.zip l).lookup f = some x ∧ Φ x M1) : AE B K (tFld K ta f) σ M Φ := fun W μ H τ o s e Q q =>
  h W μ H τ o s e _ fun z M1 W1 μ1 H1 v ⟨k, C, ns, l, x, e1, hk, c1, c2, hl, p⟩ f1 r1 => by
    subst e1
    obtain ⟨a, ha, rfl⟩ := r1
    obtain ⟨dx, vs, h1, h2, h3⟩ := f1.sim.ob k a _ ha hk
    obtain ⟨w, hw, rw_⟩ := lookup_zip h3 hl
    exact ⟨a, C, dx, _, w, rfl, h1, c1, c2, hw, q _ _ _ _ _ _ p f1 rw_⟩
end
end Al

namespace Al
open PySem PyProof.Rows L2
/-! ### forgetting the younger mutable objects -/
def cutV1 (n : Nat) : Option AV → Option AV
  | some (.d x) => some (.d x)
  | some (.m k) => if k < n then some (.m k) else none
  | none => none
def cutE (n : Nat) (σ : AEnv) : AEnv := σ.map (cutV1 n)
/-- a mutable object that stands at the return, as data -/
inductive Froz (n : Nat) (M : List MO) : AV → AV → Prop
  | dat {x : D} : Froz n M (.d x) (.d x)
  | low {k : Nat} (h : k < n) : Froz n M (.m k) (.m k)
  | lst {k : Nat} {l : List D} (hn : n ≤ k) (h : M[k]? = some (.lst l)) : Froz n M (.m k) (.d (.lst l))
  | ins {k : Nat} {C : Addr} {ns : List Str} {l : List D} (hn : n ≤ k) (h : M[k]? = some (.ins C ns (l.map AV.d))) : Froz n M (.m k) (.d (.ins C ns l))
section
variable {B : Base} {K : PySem.W.Frag} {σ : AEnv} {M : List MO} {W W1 H : Hp} {μ μ1 : List Addr}
theorem ra_below {n : Nat} {x : AV} {v : V} (h : RA K W μ x v) (hb : x.below n = true) : RA K W (μ.take n) x v := by
  cases x with
  | d x => exact h
  | m k =>
    obtain ⟨a, h1, h2⟩ := h
    have hk : k < n := by unfold AV.below at hb; exact of_decide_eq_true hb
    exact ⟨a, by rw [List.getElem?_take]; rw [if_pos hk]; exact h1, h2⟩
theorem ras_below {n : Nat} : ∀ {x : List AV} {v : List V}, RAs K W μ x v → x.all (AV.below n) = true → RAs K W (μ.take n) x v
  | [], _, h, _ => h
  | d :: l, _, ⟨v, r, e1, h, t⟩, hb => by
    rw [List.all_cons, Bool.and_eq_true] at hb
    exact ⟨v, r, e1, ra_below h hb.1, ras_below t hb.2⟩
theorem go_cut {n : Nat} (g : Go B K W1 μ1 W μ M H) (hn : μ1.length ≤ n) (h1 : B.μ0.length ≤ n) (hb : ∀ o ∈ M.take n, o.below n = true) : Go B K W1 μ1 W (μ.take n) (M.take n) H := by
  obtain ⟨ext, e1, e2⟩ := g.ok.pre
  obtain ⟨e, he⟩ := g.mext
  refine ⟨⟨g.ok.wsub, g.ok.wnew, g.ok.fr, ⟨ext.take (n - B.μ0.length), ?_, fun a ha => e2 a (List.mem_of_mem_take ha)⟩, g.ok.live⟩, ⟨g.sim.sub, g.sim.nd.sublist (List.take_sublist _ _), by rw [List.length_take, List.length_take, g.sim.len], fun a h => g.sim.out a (List.mem_of_mem_take h), fun k a o q1 q2 => ?_⟩, g.wext, ⟨e.take (n - μ1.length), ?_⟩⟩
  · rw [e1, List.take_append, List.take_of_length_le h1]
  · have hm := hb o (List.mem_of_getElem? q2)
    rw [List.getElem?_take] at q1 q2
    by_cases hk : k < n
    · rw [if_pos hk] at q1 q2
      have q := g.sim.ob k a o q1 q2
      cases o with
      | lst l => exact q
      | ins C ns l =>
        obtain ⟨dx, vs, z1, z2, z3⟩ := q
        exact ⟨dx, vs, z1, z2, ras_below z3 hm⟩
    · rw [if_neg hk] at q1; cases q1
  · rw [he, List.take_append, List.take_of_length_le hn]
theorem re_cut {n : Nat} {τ : L2.St} (h : RE K W μ σ τ) : RE K W (μ.take n) (cutE n σ) τ := by
  refine ⟨by unfold cutE; simp [h.1], fun i x q => ?_⟩
  unfold cutE at q
  rw [List.getElem?_map] at q
  cases e : σ[i]? with
  | none => rw [e] at q; cases q
  | some y =>
    rw [e] at q
    simp only [Option.map_some, Option.some.injEq] at q
    cases y with
    | none => cases q
    | some y =>
      obtain ⟨v, h1, h2⟩ := h.2 i y e
      cases y with
      | d z => cases q; exact ⟨v, h1, h2⟩
      | m k =>
        have q : (if k < n then some (AV.m k) else none) = some x := q
        by_cases hk : k < n
        · rw [if_pos hk] at q
          cases q
          exact ⟨v, h1, ra_below h2 (by unfold AV.below; exact decide_eq_true hk)⟩
        · rw [if_neg hk] at q; cases q
/-- P holds of what is left of the state -/
def Cut (n : Nat) (P : AEnv → List MO → Prop) : AEnv → List MO → Prop := fun σ M => (∀ o ∈ M.take n, o.below n = true) ∧ P (cutE n σ) (M.take n)
/-- a frozen object joins what never changes -/
theorem go_frz {n k : Nat} {a : Addr} {u : HO} (g : Go B K W1 μ1 W μ M H) (hn : μ1.length ≤ n) (h1 : B.μ0.length ≤ n) (hb : ∀ o ∈ M.take n, o.below n = true) (hk : n ≤ k) (ha : μ[k]? = some a) (hu : H a = some u) : Go B K W1 μ1 (upd W a u) (μ.take n) (M.take n) H := by
  have g2 := go_cut g hn h1 hb
  have wa : W a = none := g.sim.out a (List.mem_of_getElem? ha)
  have na : a ∉ μ.take n := fun h => by
    obtain ⟨j, hj, e⟩ := List.getElem_of_mem h
    obtain ⟨lk, ek⟩ := List.getElem?_eq_some_iff.mp ha
    rw [List.getElem_take] at e
    have hjn : j < n := by rw [List.length_take] at hj; omega
    have : j = k := (List.getElem_inj g.sim.nd).mp (e.trans ek.symm)
    omega
  have n0 : B.H0 a = none := by
    obtain ⟨ext, e1, e2⟩ := g.ok.pre
    refine e2 a ?_
    rw [e1, List.getElem?_append_right (by omega)] at ha
    exact List.mem_of_getElem? ha
  refine ⟨⟨g2.ok.wsub.trans (same_upd wa), fun b o h => ?_, g2.ok.fr, g2.ok.pre, g2.ok.live⟩, ⟨fun b o h => ?_, g2.sim.nd, g2.sim.len, fun b h => ?_, fun j b o q1 q2 => ?_⟩, g2.wext.trans (same_upd wa), g2.mext⟩
  · by_cases e : b = a
    · subst e; exact .inr n0
    · rw [upd_ne e] at h; exact g2.ok.wnew b o h
  · by_cases e : b = a
    · subst e; rw [upd_same] at h; cases h; exact hu
    · rw [upd_ne e] at h; exact g2.sim.sub b o h
  · have : b ≠ a := fun e => na (e ▸ h)
    rw [upd_ne this]; exact g2.sim.out b h
  · have q := (g2.sim.ob j b o q1 q2).mono (μ' := []) (same_upd (o := u) wa) (H' := H) (fun w e => e)
    rwa [List.append_nil] at q
theorem froz_run {n : Nat} {x y : AV} {v : V} (g : Go B K W1 μ1 W μ M H) (hn : μ1.length ≤ n) (h1 : B.μ0.length ≤ n) (hb : ∀ o ∈ M.take n, o.below n = true) (z : Froz n M x y) (r : RA K W μ x v) :
    ∃ W', Go B K W1 μ1 W' (μ.take n) (M.take n) H ∧ RA K W' (μ.take n) y v := by
  cases z with
  | dat => exact ⟨W, go_cut g hn h1 hb, r⟩
  | low hk => exact ⟨W, go_cut g hn h1 hb, ra_below r (by unfold AV.below; exact decide_eq_true hk)⟩
  | @lst k l hk hm =>
    obtain ⟨a, ha, rfl⟩ := r
    obtain ⟨vs, e1, e2⟩ := g.sim.ob k a _ ha hm
    have g3 := go_frz g hn h1 hb hk ha e1
    exact ⟨_, g3, a, vs, rfl, upd_same, RDs.mono (same_upd (g.sim.out a (List.mem_of_getElem? ha))) e2⟩
  | @ins k C ns l hk hm =>
    obtain ⟨a, ha, rfl⟩ := r
    obtain ⟨dx, vs, e1, e2, e3⟩ := g.sim.ob k a _ ha hm
    have g3 := go_frz g hn h1 hb hk ha e1
    exact ⟨_, g3, a, dx, vs, rfl, upd_same, by simpa using e2, RDs.mono (same_upd (g.sim.out a (List.mem_of_getElem? ha))) e3.of_ds⟩
/-- the end of a def: n0 objects were handed in -/
def RT (n0 : Nat) (P : AV → List MO → Prop) : AV → List MO → Prop := fun x M => ∃ n y, n0 ≤ n ∧ Froz n M x y ∧ (∀ o ∈ M.take n, o.below n = true) ∧ P y (M.take n)
def XT (n0 : Nat) (P : Exc → List MO → Prop) : Exc → List MO → Prop := fun x M => ∃ n, n0 ≤ n ∧ (∀ o ∈ M.take n, o.below n = true) ∧ P x (M.take n)
def defEnds (n0 : Nat) (P : AV → List MO → Prop) : AEnds := { nx := fun _ M => RT n0 P (.d .non) M, rt := RT n0 P }
def startA (N : List Str) (xs : List AV) : AEnv := xs.map some ++ List.replicate (N.length - xs.length) none
theorem re_start {N : List Str} : ∀ {xs : List AV} {vs : List V}, RAs K W μ xs vs → RE K W μ (startA N xs) (L2.start N vs) := fun {xs vs} r => by
  unfold startA L2.start
  refine ⟨by simp [r.length], fun i x q => ?_⟩
  by_cases hi : i < xs.length
  · rw [List.getElem?_append_left (by simpa using hi)] at q
    rw [List.getElem?_append_left (by rw [List.length_map, ← r.length]; exact hi)]
    rw [List.getElem?_map] at q ⊢
    cases e : xs[i]? with
    | none => rw [e] at q; cases q
    | some y =>
      rw [e] at q
      simp only [Option.map_some, Option.some.injEq] at q
      subst q
      obtain ⟨v, h1, h2⟩ := r.get e
      exact ⟨v, by rw [h1]; rfl, h2⟩
  · rw [List.getElem?_append_right (by simp; omega), List.getElem?_replicate] at q
    split at q <;> cases q
end
section
variable {P : Program} {w : World} {K : PySem.W.Frag} {mg : Str → Option Value} {base : Heap}
theorem conc_body {B0 : Type} {asp : ASp} {t : TS} {N : List Str} {vs : List V} {H : Hp} {Q : VK} {E : XK} (h : conc K asp vs H Q E)
    (body : ∀ (B : Base) xs M Φ Ψ, B.μ0.length = M.length → asp xs M Φ Ψ → EFits B K (XT M.length Ψ) E → AS B K t (startA N xs) M (defEnds M.length Φ)) : t { nx := fun _ H' => Q .non H', rt := Q } (L2.start N vs) H := by
  obtain ⟨W, μ, M, xs, s, r, ha⟩ := h
  refine body ⟨W, μ, H⟩ xs M _ _ s.len ha (fun x M1 W1 μ1 H1 cls d ⟨n, hn, hb, p⟩ o1 s1 rx => ?_) W μ H _ Ok.refl s (re_start r) _ ⟨fun σ M1 W1 μ1 H1 τ ⟨n, y, hn, z, hb, p⟩ g e => ?_, fun x M1 W1 μ1 H1 v ⟨n, y, hn, z, hb, p⟩ g rv => ?_, fun _ _ _ _ _ _ q => q.elim, fun _ _ _ _ _ _ q => q.elim⟩
  · have g : Go ⟨W, μ, H⟩ K W μ W1 μ1 M1 H1 := ⟨o1, s1, o1.wsub, let ⟨e, h, _⟩ := o1.pre; ⟨e, h⟩⟩
    exact p _ _ _ _ _ (go_cut g (by rw [s.len]; exact hn) (by show μ.length ≤ n; rw [s.len]; exact hn) hb) rx
  · obtain ⟨W2, g2, r2⟩ := froz_run (v := .non) g (by rw [s.len]; exact hn) (by show μ.length ≤ n; rw [s.len]; exact hn) hb z rfl
    exact p _ _ _ _ g2 r2
  · obtain ⟨W2, g2, r2⟩ := froz_run g (by rw [s.len]; exact hn) (by show μ.length ≤ n; rw [s.len]; exact hn) hb z rv
    exact p _ _ _ _ g2 r2
/-- a def that raises nothing -/
theorem fn_al {x qual : Str} {st : Stmt} {f : Addr} {fd : FuncData} {N ps : List Str} {k : Nat} {asp : ASp} (F : Fun K x qual st f fd) (S : FnScope N ps (defScope st)) (len : ∀ xs M Φ Ψ, asp xs M Φ Ψ → xs.length = ps.length)
    (hbody : ∀ (cdv : Value) (A : Around) (outer : List Env) (s : Shared) (H : Hp) (E : XK), Room k (A.deeper (envOfC qual (defScope st) s.heap.objs.size f cdv)) →
      ∃ t, PSs (cxOf CX0 P w K mg base N qual (defScope st) f cdv A outer s H E).nox (defBody st) t ∧ ∀ (B : Base) xs M Φ Ψ, B.μ0.length = M.length → asp xs M Φ Ψ → AS B K t (startA N xs) M (defEnds M.length Φ)) : FnOk P w K mg base CX0 (k + 1) f fd ps (conc K asp) := by
  refine F.ok S (fun vs H Q E h => ?_) (fun cdv A outer s H vs Q E hr h => ?_)
  · obtain ⟨W, μ, M, xs, _, r, ha⟩ := h
    rw [← r.length]; exact len _ _ _ _ ha
  · obtain ⟨t, h1, h2⟩ := hbody cdv A outer s H E hr
    exact ⟨t, h1, conc_body (B0 := Unit) h fun B xs M Φ Ψ hB ha _ => h2 B xs M Φ Ψ hB ha⟩
/-- a def that may raise -/
theorem fn_alX {x qual : Str} {st : Stmt} {f : Addr} {fd : FuncData} {N ps : List Str} {k : Nat} {asp : ASp} (F : Fun K x qual st f fd) (S : FnScope N ps (defScope st)) (len : ∀ xs M Φ Ψ, asp xs M Φ Ψ → xs.length = ps.length)
    (hbody : ∀ (cdv : Value) (A : Around) (outer : List Env) (s : Shared) (H : Hp) (E : XK), Room k (A.deeper (envOfC qual (defScope st) s.heap.objs.size f cdv)) →
      ∃ t, PSs (cxOf (L2.CX P w) P w K mg base N qual (defScope st) f cdv A outer s H E) (defBody st) t ∧ ∀ (B : Base) xs M Φ Ψ, B.μ0.length = M.length → asp xs M Φ Ψ → EFits B K (XT M.length Ψ) E → AS B K t (startA N xs) M (defEnds M.length Φ)) : FnOk P w K mg base (L2.CX P w) (k + 1) f fd ps (conc K asp) := by
  refine F.okX S (fun vs H Q E h => ?_) (fun cdv A outer s H vs Q E hr h => ?_)
  · obtain ⟨W, μ, M, xs, _, r, ha⟩ := h
    rw [← r.length]; exact len _ _ _ _ ha
  · obtain ⟨t, h1, h2⟩ := hbody cdv A outer s H E hr
    exact ⟨t, h1, conc_body (B0 := Unit) h h2⟩
end
/-! ### walks -/
section
variable {B : Base} {K : PySem.W.Frag} {σ : AEnv} {M : List MO} {ta tb te tl : TE} {x y : AV}
def ItOk (K : PySem.W.Frag) (W : Hp) (J : It) (items : List D) : Prop := ∀ W1 H, Same W W1 → Same W1 H →
  (∀ i d, items[i]? = some d → J.go i H ∧ ∀ x H', J.yld i H x H' → (H' = H ∧ RD K W1 d x) ∨ ∃ p o, H p = none ∧ H' = upd H p o ∧ RD K (upd W1 p o) d x) ∧ J.stop items.length H
def AI (B : Base) (K : PySem.W.Frag) (wi : TI) (σ : AEnv) (M : List MO) (Φ : List D → List MO → Prop) : Prop := ∀ W μ H τ, Ok B W μ H → Sim K W μ M H → RE K W μ σ τ → ∀ R : It → Hp → Prop,
  (∀ items M' W' μ' H' J, Φ items M' → Go B K W μ W' μ' M' H' → ItOk K W' J items → R J H') → wi τ H R
theorem ai_list {Φ : List D → List MO → Prop} (h : AE B K tl σ M fun x M1 => ∃ l, x = .d (.lst l) ∧ Φ l M1) : AI B K (iList K tl) σ M Φ := fun W μ H τ o s e R q =>
  h W μ H τ o s e _ fun x M1 W1 μ1 H1 v ⟨l, e1, p⟩ f1 r1 => by
    subst e1
    obtain ⟨a, vs, rfl, h1, h2⟩ := r1
    refine ⟨a, rfl, ⟨vs, SqL.of (f1.sim.sub _ _ h1)⟩, q _ _ _ _ _ _ p f1 fun W2 H2 s1 s2 => ?_⟩
    have hq : SqL K H2 a vs := SqL.of ((s1.trans s2) _ _ h1)
    refine ⟨fun i d hd => ?_, ⟨vs, hq, by rw [h2.length]; exact Nat.le_refl _⟩⟩
    obtain ⟨v, hv, rv⟩ := h2.get hd
    refine ⟨⟨vs, v, hq, hv⟩, fun x H' ⟨e1, e2⟩ => .inl ⟨e1, ?_⟩⟩
    have := e2 vs hq
    rw [hv] at this; cases this
    exact RD.mono s1 rv
theorem ai_scr {Φ : List D → List MO → Prop} (h : AE B K tl σ M fun x M1 => ∃ l, x = .d (.scr l) ∧ Φ l M1) : AI B K (iList K tl) σ M Φ := fun W μ H τ o s e R q =>
  h W μ H τ o s e _ fun x M1 W1 μ1 H1 v ⟨l, e1, p⟩ f1 r1 => by
    subst e1
    obtain ⟨a, vs, rfl, h1, h2⟩ := r1
    refine ⟨a, rfl, ⟨vs, f1.sim.sub.seq h1⟩, q _ _ _ _ _ _ p f1 fun W2 H2 s1 s2 => ?_⟩
    have hq := (s1.trans s2).seq h1
    refine ⟨fun i d hd => ?_, ⟨vs, hq, by rw [h2.length]; exact Nat.le_refl _⟩⟩
    obtain ⟨v, hv, rv⟩ := h2.get hd
    refine ⟨⟨vs, v, hq, hv⟩, fun x H' ⟨e1, e2⟩ => .inl ⟨e1, ?_⟩⟩
    have := e2 vs hq
    rw [hv] at this; cases this
    exact RD.mono s1 rv
theorem ai_tup {Φ : List D → List MO → Prop} (h : AE B K tl σ M fun x M1 => ∃ l, x = .d (.tup l) ∧ Φ l M1) : AI B K (iTup K tl) σ M Φ := fun W μ H τ o s e R q =>
  h W μ H τ o s e _ fun x M1 W1 μ1 H1 v ⟨l, e1, p⟩ f1 r1 => by
    subst e1
    obtain ⟨a, vs, rfl, h1, h2⟩ := r1
    refine ⟨a, rfl, ⟨vs, sqt_mono f1.sim.sub h1⟩, q _ _ _ _ _ _ p f1 fun W2 H2 s1 s2 => ?_⟩
    have hq := sqt_mono (s1.trans s2) h1
    refine ⟨fun i d hd => ?_, ⟨vs, hq, by rw [h2.length]; exact Nat.le_refl _⟩⟩
    obtain ⟨v, hv, rv⟩ := h2.get hd
    refine ⟨⟨vs, v, hq, hv⟩, fun x H' ⟨e1, e2⟩ => .inl ⟨e1, ?_⟩⟩
    have := e2 vs hq
    rw [hv] at this; cases this
    exact RD.mono s1 rv
def rngD (lo : Int) (n : Nat) : List D := (List.range n).map fun (i : Nat) => D.int (lo + (i : Int))
theorem rngD_len (lo : Int) (n : Nat) : (rngD lo n).length = n := by unfold rngD; simp
theorem rngD_get {lo : Int} {n i : Nat} {d : D} (h : (rngD lo n)[i]? = some d) : i < n ∧ d = .int (lo + (i : Int)) := by
  have hl := (List.getElem?_eq_some_iff.mp h).1
  rw [rngD_len] at hl
  unfold rngD at h
  rw [List.getElem?_map, List.getElem?_range hl] at h
  cases h
  exact ⟨hl, rfl⟩
theorem it_rng {W : Hp} {lo : Int} {n : Nat} : ItOk K W (Itr lo n) (rngD lo n) := fun W2 H2 s1 s2 => by
  refine ⟨fun i d hd => ?_, by rw [rngD_len]; exact Nat.le_refl _⟩
  obtain ⟨hi, rfl⟩ := rngD_get hd
  exact ⟨hi, fun x H' ⟨e1, e2⟩ => .inl ⟨e1, e2⟩⟩
theorem ai_rng1 {ta : TA} {Φ : List D → List MO → Prop} (h : AA B K ta σ M fun xs M1 => ∃ j : Int, xs = [.d (.int j)] ∧ -(2 ^ 62) ≤ j ∧ j < 2 ^ 62 ∧ Φ (rngD 0 j.toNat) M1) : AI B K (iRng1 ta) σ M Φ := fun W μ H τ o s e R q =>
  h W μ H τ o s e _ fun x M1 W1 μ1 H1 v ⟨j, e1, h1, h2, p⟩ f1 r1 => by
    subst e1
    obtain ⟨v, r, rfl, r2, r3⟩ := r1
    cases r2; cases r3
    exact ⟨j, rfl, h1, h2, q _ _ _ _ _ _ p f1 it_rng⟩
theorem ai_rng2 {ta : TA} {Φ : List D → List MO → Prop} (h : AA B K ta σ M fun xs M1 => ∃ i j : Int, xs = [.d (.int i), .d (.int j)] ∧ (-(2 ^ 62) ≤ i ∧ i < 2 ^ 62 ∧ -(2 ^ 62) ≤ j ∧ j < 2 ^ 62) ∧ Φ (rngD i (j - i).toNat) M1) : AI B K (iRng2 ta) σ M Φ := fun W μ H τ o s e R q =>
  h W μ H τ o s e _ fun x M1 W1 μ1 H1 v ⟨i, j, e1, h1, p⟩ f1 r1 => by
    subst e1
    obtain ⟨v, r, rfl, r2, v', r', rfl, r3, r4⟩ := r1
    cases r2; cases r3; cases r4
    exact ⟨i, j, rfl, h1, q _ _ _ _ _ _ p f1 it_rng⟩
def enumD : Nat → List D → List D
  | _, [] => []
  | n, d :: l => .tup [.int (n : Nat), d] :: enumD (n + 1) l
theorem enumD_len : ∀ (n : Nat) (l : List D), (enumD n l).length = l.length
  | _, [] => rfl
  | n, d :: l => by unfold enumD; simp [enumD_len]
theorem enumD_get : ∀ {n : Nat} {l : List D} {i : Nat} {d : D}, (enumD n l)[i]? = some d → ∃ x, l[i]? = some x ∧ d = .tup [.int ((n + i : Nat) : Int), x]
  | _, [], _, _, h => by unfold enumD at h; simp at h
  | n, x :: l, 0, _, h => by unfold enumD at h; simp at h; exact ⟨x, rfl, by rw [← h]; rfl⟩
  | n, x :: l, i + 1, _, h => by
    unfold enumD at h
    obtain ⟨y, h1, h2⟩ := enumD_get (by simpa using h)
    exact ⟨y, by simpa using h1, by rw [h2]; congr 3; omega⟩
theorem ai_enum {ta : TA} {Φ : List D → List MO → Prop} (h : AA B K ta σ M fun xs M1 => ∃ l, xs = [.d (.lst l)] ∧ Φ (enumD 0 l) M1) : AI B K (iEnum K ta) σ M Φ := fun W μ H τ o s e R q =>
  h W μ H τ o s e _ fun x M1 W1 μ1 H1 v ⟨l, e1, p⟩ f1 r1 => by
    subst e1
    obtain ⟨v, r, rfl, r2, r3⟩ := r1
    cases r3
    obtain ⟨a, vs, rfl, h1, h2⟩ := r2
    refine ⟨a, vs, rfl, SqL.of (f1.sim.sub _ _ h1), q _ _ _ _ _ _ p f1 fun W2 H2 s1 s2 => ?_⟩
    have hq : SqL K H2 a vs := SqL.of ((s1.trans s2) _ _ h1)
    refine ⟨fun i d hd => ?_, ⟨vs, hq, by rw [enumD_len, h2.length]; exact Nat.le_refl _⟩⟩
    obtain ⟨y, hy, rfl⟩ := enumD_get hd
    obtain ⟨v, hv, rv⟩ := h2.get hy
    refine ⟨⟨vs, v, hq, hv⟩, fun x H' ⟨T, z, e1, e2, e3, e4⟩ => .inr ⟨T, _, e2, e3, ?_⟩⟩
    have := e4 vs hq
    rw [hv] at this; cases this
    have wT : W2 T = none := by
      cases e : W2 T with
      | none => rfl
      | some u => rw [s2 T u e] at e2; cases e2
    subst e1
    exact ⟨T, _, rfl, .inl (.inl upd_same), _, _, rfl, by rw [Nat.zero_add]; rfl, _, _, rfl, RD.mono (s1.trans (same_upd wT)) rv, rfl⟩
/-- a turn's item -/
theorem go_item {W : Hp} {μ : List Addr} {H H' : Hp} {d : D} {x : V} (o : Ok B W μ H) (s : Sim K W μ M H) (h : (H' = H ∧ RD K W d x) ∨ ∃ p u, H p = none ∧ H' = upd H p u ∧ RD K (upd W p u) d x) : ∃ W', Go B K W μ W' μ M H' ∧ RD K W' d x := by
  rcases h with ⟨rfl, h⟩ | ⟨p, u, hp, rfl, h⟩
  · exact ⟨W, .refl o s, h⟩
  · exact ⟨_, go_new o s hp, h⟩
/-- for: I the invariant, over the turn; n objects stand at each turn's start -/
theorem as_for {wi : TI} {g : TG} {tb : TS} {Φ : AEnds} {n : Nat} (I : Nat → AEnv → List MO → Prop) (hI : ∀ i σ M, I i σ M → M.length = n) (h : AI B K wi σ M fun items M1 => I 0 σ M1 ∧
      (∀ i d σ' M', items[i]? = some d → I i σ' M' → AG B K g (.d d) σ' M' fun σ2 M2 => AS B K tb σ2 M2 { nx := Cut n (I (i + 1)), ct := Cut n (I (i + 1)), bk := Φ.nx, rt := Φ.rt }) ∧ (∀ σ' M', I items.length σ' M' → Φ.nx σ' M')) : AS B K (tFor wi g tb) σ M Φ := fun W μ H τ o s e E f =>
  h W μ H τ o s e _ fun items M1 W1 μ1 H1 J ⟨h0, hs, hd⟩ f1 ok => by
    have hl : μ1.length = n := by rw [f1.sim.len]; exact hI _ _ _ h0
    have hB : B.μ0.length ≤ n := by
      obtain ⟨ext, e1, _⟩ := f1.ok.pre
      rw [← hl, e1, List.length_append]; omega
    refine ⟨fun i m τ' H' => m = items.length - i ∧ i ≤ items.length ∧ ∃ σ' M' W' , I i σ' M' ∧ Go B K W1 μ1 W' μ1 M' H' ∧ RE K W' μ1 σ' τ', ⟨items.length, rfl, Nat.zero_le _, σ, M1, W1, h0, .refl f1.ok f1.sim, f1.re e⟩, ?_⟩
    rintro i m τ' H' ⟨rfl, hi, σ', M', W', hi1, g1, e1⟩
    have hok := ok W' H' g1.wext g1.sim.sub
    by_cases hlt : i < items.length
    · refine .inr ?_
      obtain ⟨hgo, hy⟩ := hok.1 i items[i] (List.getElem?_eq_getElem hlt)
      refine ⟨hgo, fun τ2 H2 => items.length - (i + 1) = items.length - (i + 1) ∧ i + 1 ≤ items.length ∧ ∃ σ' M' W', I (i + 1) σ' M' ∧ Go B K W1 μ1 W' μ1 M' H2 ∧ RE K W' μ1 σ' τ2, fun τ2 H2 hN => ⟨items.length - (i + 1), by omega, hN⟩, fun x Hx hyx => ?_⟩
      obtain ⟨Wx, gx, rx⟩ := go_item g1.ok g1.sim (hy x Hx hyx)
      refine hs i _ σ' M' (List.getElem?_eq_getElem hlt) hi1 Wx μ1 Hx τ' x gx.ok gx.sim (gx.re e1) rx _ fun σ2 M2 W2 μ2 H2 τ2 p2 f2 e2 => ?_
      have g12 : Go B K W1 μ1 W2 μ2 M2 H2 := (g1.trans gx).trans f2
      have turn : ∀ σ3 M3 W3 μ3 H3 τ3, Cut n (I (i + 1)) σ3 M3 → Go B K W2 μ2 W3 μ3 M3 H3 → RE K W3 μ3 σ3 τ3 → items.length - (i + 1) = items.length - (i + 1) ∧ i + 1 ≤ items.length ∧ ∃ σ' M' W', I (i + 1) σ' M' ∧ Go B K W1 μ1 W' μ1 M' H3 ∧ RE K W' μ1 σ' τ3 := by
        intro σ3 M3 W3 μ3 H3 τ3 ⟨hb, p3⟩ f3 e3
        have g13 := go_cut (g12.trans f3) (Nat.le_of_eq hl) hB hb
        have hm : μ3.take n = μ1 := by
          obtain ⟨e', he'⟩ := (g12.trans f3).mext
          rw [he', List.take_append, List.take_of_length_le (Nat.le_of_eq hl), hl, Nat.sub_self, List.take_zero, List.append_nil]
        have e4 := re_cut (n := n) e3
        rw [hm] at g13 e4
        exact ⟨rfl, hlt, _, _, W3, p3, g13, e4⟩
      exact p2 W2 μ2 H2 τ2 f2.ok f2.sim e2 _ ⟨fun σ3 M3 W3 μ3 H3 τ3 p3 f3 e3 => turn _ _ _ _ _ _ p3 f3 e3, fun y M3 W3 μ3 H3 v3 p3 f3 r3 => f.rt _ _ _ _ _ _ p3 ((f1.trans g12).trans f3) r3, fun σ3 M3 W3 μ3 H3 τ3 p3 f3 e3 => f.nx _ _ _ _ _ _ p3 ((f1.trans g12).trans f3) e3, fun σ3 M3 W3 μ3 H3 τ3 p3 f3 e3 => turn _ _ _ _ _ _ p3 f3 e3⟩
    · have hil : i = items.length := by omega
      subst hil
      exact .inl ⟨hok.2, f.nx _ _ _ _ _ _ (hd _ _ hi1) (f1.trans g1) e1⟩
/-- while -/
theorem as_while {c : TT} {tb : TS} {Φ : AEnds} {n : Nat} (I : Nat → AEnv → List MO → Prop) (hI : ∀ i σ M, I i σ M → M.length = n) (m0 : Nat) (h0 : I m0 σ M)
    (h : ∀ m σ' M', I m σ' M' → AT B K c σ' M' fun b M2 => (b = true → AS B K tb σ' M2 { nx := Cut n (fun σ M => ∃ m', m' < m ∧ I m' σ M), ct := Cut n (fun σ M => ∃ m', m' < m ∧ I m' σ M), bk := Φ.nx, rt := Φ.rt }) ∧ (b = false → Φ.nx σ' M2)) : AS B K (tWhile c tb) σ M Φ := fun W μ H τ o s e E f => by
  have hl : μ.length = n := by rw [s.len]; exact hI _ _ _ h0
  have hB : B.μ0.length ≤ n := by
    obtain ⟨ext, e1, _⟩ := o.pre
    rw [← hl, e1, List.length_append]; omega
  refine ⟨fun m τ' H' => ∃ σ' M' W', I m σ' M' ∧ Go B K W μ W' μ M' H' ∧ RE K W' μ σ' τ', ⟨m0, σ, M, W, h0, .refl o s, e⟩, ?_⟩
  rintro m τ' H' ⟨σ', M', W', hi1, g1, e1⟩
  refine h m σ' M' hi1 W' μ H' τ' g1.ok g1.sim e1 _ fun b M2 W2 μ2 H2 ⟨p1, p2⟩ f2 => ?_
  cases b with
  | false => exact iteF (f.nx _ _ _ _ _ _ (p2 rfl) (g1.trans f2) (f2.re e1))
  | true =>
    refine iteT ⟨fun τ3 H3 => ∃ m', m' < m ∧ ∃ σ' M' W', I m' σ' M' ∧ Go B K W μ W' μ M' H3 ∧ RE K W' μ σ' τ3, fun τ3 H3 h => h, ?_⟩
    have turn : ∀ σ3 M3 W3 μ3 H3 τ3, Cut n (fun σ M => ∃ m', m' < m ∧ I m' σ M) σ3 M3 → Go B K W2 μ2 W3 μ3 M3 H3 → RE K W3 μ3 σ3 τ3 → ∃ m', m' < m ∧ ∃ σ' M' W', I m' σ' M' ∧ Go B K W μ W' μ M' H3 ∧ RE K W' μ σ' τ3 := by
      intro σ3 M3 W3 μ3 H3 τ3 ⟨hb, m', hm', p3⟩ f3 e3
      have g13 := go_cut ((g1.trans f2).trans f3) (Nat.le_of_eq hl) hB hb
      have hm : μ3.take n = μ := by
        obtain ⟨e', he'⟩ := ((g1.trans f2).trans f3).mext
        rw [he', List.take_append, List.take_of_length_le (Nat.le_of_eq hl), hl, Nat.sub_self, List.take_zero, List.append_nil]
      have e4 := re_cut (n := n) e3
      rw [hm] at g13 e4
      exact ⟨m', hm', _, _, W3, p3, g13, e4⟩
    exact p1 rfl W2 μ2 H2 τ' f2.ok f2.sim (f2.re e1) _ ⟨fun σ3 M3 W3 μ3 H3 τ3 p3 f3 e3 => turn _ _ _ _ _ _ p3 f3 e3, fun y M3 W3 μ3 H3 v3 p3 f3 r3 => f.rt _ _ _ _ _ _ p3 ((g1.trans f2).trans f3) r3, fun σ3 M3 W3 μ3 H3 τ3 p3 f3 e3 => f.nx _ _ _ _ _ _ p3 ((g1.trans f2).trans f3) e3, fun σ3 M3 W3 μ3 H3 τ3 p3 f3 e3 => turn _ _ _ _ _ _ p3 f3 e3⟩
end
end Al

namespace Al
open PySem PyProof.Rows L2
/-! ### comprehensions -/
def wipeA (σ : AEnv) : List Nat → AEnv
  | [] => σ
  | v :: vs => (wipeA σ vs).set v none
theorem re_wipe {K : PySem.W.Frag} {W : Hp} {μ : List Addr} {σ : AEnv} {τ : L2.St} (h : RE K W μ σ τ) : ∀ vs : List Nat, RE K W μ (wipeA σ vs) (wipe τ vs)
  | [] => h
  | v :: vs => (re_wipe h vs).setN v
theorem wipe_get (τ : L2.St) : ∀ (vs : List Nat) (i : Nat), (wipe τ vs)[i]? = if i ∈ vs then (if i < τ.length then some none else none) else τ[i]?
  | [], i => by unfold wipe; simp
  | v :: vs, i => by
    unfold wipe
    by_cases e : v = i
    · subst e
      rw [List.getElem?_set]
      simp only [if_true, wipe_length, List.mem_cons_self]
    · rw [List.getElem?_set_ne e, wipe_get τ vs i]
      have : (i ∈ v :: vs) ↔ i ∈ vs := by
        rw [List.mem_cons]; constructor
        · rintro (z | z)
          · exact absurd z.symm e
          · exact z
        · exact .inr
      by_cases h : i ∈ vs
      · rw [if_pos h, if_pos (this.mpr h)]
      · rw [if_neg h, if_neg (fun z => h (this.mp z))]
theorem wipe_set {τ : L2.St} {vs : List Nat} {j : Nat} {x : Option V} (h : j ∈ vs) : wipe (τ.set j x) vs = wipe τ vs := by
  apply List.ext_getElem?
  intro i
  rw [wipe_get, wipe_get]
  by_cases hi : i ∈ vs
  · rw [if_pos hi, if_pos hi, List.length_set]
  · rw [if_neg hi, if_neg hi, List.getElem?_set_ne]
    intro e; exact hi (e ▸ h)
theorem wipe_wipe {τ : L2.St} {vs : List Nat} : wipe (wipe τ vs) vs = wipe τ vs := by
  apply List.ext_getElem?
  intro i
  rw [wipe_get, wipe_get, wipe_length]
  by_cases hi : i ∈ vs
  · rw [if_pos hi, if_pos hi]
  · rw [if_neg hi, if_neg hi]
/-- a target stores into these slots alone -/
def GK (g : TG) (vs : List Nat) : Prop := ∀ v τ H Q, g v τ H Q → g v τ H fun τ2 H2 => wipe τ2 vs = wipe τ vs ∧ Q τ2 H2
def GKs (g : TGs) (vs : List Nat) : Prop := ∀ v τ H Q, g v τ H Q → g v τ H fun τ2 H2 => wipe τ2 vs = wipe τ vs ∧ Q τ2 H2
theorem gk_name {i : Nat} {vs : List Nat} (h : vs.contains i = true) : GK (gName i) vs := fun v τ H Q q => ⟨wipe_set (by simpa using h), q⟩
theorem gks_nil {vs : List Nat} : GKs gNil vs := fun v τ H Q ⟨e, q⟩ => ⟨e, rfl, q⟩
theorem gks_name {i : Nat} {gs : TGs} {vs : List Nat} (h : vs.contains i = true) (hs : GKs gs vs) : GKs (gCons (gName i) gs) vs := fun v τ H Q ⟨a, r, e, q⟩ => ⟨a, r, e, by
  have := hs r _ H Q q
  have w : wipe (τ.set i (some a)) vs = wipe τ vs := wipe_set (by simpa using h)
  rw [w] at this
  exact this⟩
theorem gk_tup {K : PySem.W.Frag} {n : Nat} {gs : TGs} {vs : List Nat} (hs : GKs gs vs) : GK (gTup K n gs) vs := fun v τ H Q ⟨a, xs, e, h1, h2, q⟩ => ⟨a, xs, e, h1, h2, hs xs τ H Q q⟩
section
variable {B : Base} {K : PySem.W.Frag} {σ : AEnv} {M : List MO} {ta tb te : TE} {x y : AV}
theorem at_yes {Φ : Bool → List MO → Prop} (k : Φ true M) : AT B K tYes σ M Φ := fun W μ H τ o s e Q q => q _ _ _ _ _ k (.refl o s)
theorem ae_lc {wi : TI} {g : TG} {tt : TT} {vs : List Nat} {Φ : AV → List MO → Prop} {n : Nat} (I : Nat → List D → List MO → Prop) (hI : ∀ i acc M, I i acc M → M.length = n ∧ M.all (MO.below n) = true) (gk : GK g vs)
    (h : AI B K wi σ M fun items M1 => I 0 [] M1 ∧ (∀ i d acc M', items[i]? = some d → I i acc M' → AG B K g (.d d) (wipeA σ vs) (M' ++ [.lst acc]) fun σ2 M2 => AT B K tt σ2 M2 fun b M3 =>
        (b = true → AE B K te σ2 M3 fun y M4 => ∃ z M5, y = .d z ∧ M4 = M5 ++ [.lst acc] ∧ acc.length < sizeLine ∧ I (i + 1) (acc ++ [z]) M5) ∧ (b = false → ∃ M5, M3 = M5 ++ [.lst acc] ∧ I (i + 1) acc M5)) ∧
      (∀ acc M', I items.length acc M' → Φ (.d (.lst acc)) M')) : AE B K (tLc wi g tt te vs) σ M Φ := fun W μ H τ o s e Q q =>
  h W μ H τ o s e _ fun items M1 W1 μ1 H1 J ⟨h0, hs, hd⟩ f1 ok Dd hD => by
    have hl : μ1.length = n := by rw [f1.sim.len]; exact (hI _ _ _ h0).1
    have hB : B.μ0.length ≤ n := by
      obtain ⟨ext, e1, _⟩ := f1.ok.pre
      rw [← hl, e1, List.length_append]; omega
    have g0 : Go B K W1 μ1 W1 (μ1 ++ [Dd]) (M1 ++ [.lst []]) (upd H1 Dd (.lst [])) := go_mut f1.ok f1.sim hD ⟨[], upd_same, rfl⟩
    have hDk : (μ1 ++ [Dd])[n]? = some Dd := by rw [← hl, List.getElem?_append_right (Nat.le_refl _), Nat.sub_self]; rfl
    refine ⟨fun i m H' => m = items.length - i ∧ i ≤ items.length ∧ ∃ acc M' W', I i acc M' ∧ Go B K W1 μ1 W' (μ1 ++ [Dd]) (M' ++ [.lst acc]) H', ⟨items.length, rfl, Nat.zero_le _, [], M1, W1, h0, g0⟩, ?_⟩
    rintro i m H' ⟨rfl, hi, acc, M', W', hi1, g1⟩
    have hok := ok W' H' g1.wext g1.sim.sub
    have hM' : M'.length = n := (hI _ _ _ hi1).1
    by_cases hlt : i < items.length
    · refine .inr ?_
      obtain ⟨hgo, hy⟩ := hok.1 i items[i] (List.getElem?_eq_getElem hlt)
      refine ⟨hgo, fun H2 => i + 1 ≤ items.length ∧ ∃ acc M' W', I (i + 1) acc M' ∧ Go B K W1 μ1 W' (μ1 ++ [Dd]) (M' ++ [.lst acc]) H2, fun H2 hN => ⟨items.length - (i + 1), by omega, rfl, hN⟩, fun x Hx hyx => ?_⟩
      obtain ⟨Wx, gx, rx⟩ := go_item g1.ok g1.sim (hy x Hx hyx)
      have ex := re_wipe ((g1.trans gx).re (f1.re e)) vs
      have hag := hs i _ acc M' (List.getElem?_eq_getElem hlt) hi1 Wx (μ1 ++ [Dd]) Hx (wipe τ vs) x gx.ok gx.sim ex rx
      -- what is left behind
      have same : ∀ {M2 W2 μ2 H2}, Go B K Wx (μ1 ++ [Dd]) W2 μ2 M2 H2 → M2.length = n + 1 → μ2 = μ1 ++ [Dd] := by
        intro M2 W2 μ2 H2 f hm
        obtain ⟨e', he'⟩ := f.mext
        have hz := f.sim.len
        rw [he', hm] at hz
        have : e'.length = 0 := by simp at hz; omega
        rw [List.eq_nil_of_length_eq_zero this] at he'
        simpa using he'
      have key := gk x (wipe τ vs) Hx _ (hag (fun τ2 H2 => tt τ2 H2 fun b H3 =>
          if b = true then te τ2 H3 fun y H4 => ∃ acc, H4 Dd = some (.lst acc) ∧ acc.length < sizeLine ∧ (i + 1 ≤ items.length ∧ ∃ acc' M' W', I (i + 1) acc' M' ∧ Go B K W1 μ1 W' (μ1 ++ [Dd]) (M' ++ [.lst acc']) (upd H4 Dd (.lst (acc ++ [y])))) else (i + 1 ≤ items.length ∧ ∃ acc M' W', I (i + 1) acc M' ∧ Go B K W1 μ1 W' (μ1 ++ [Dd]) (M' ++ [.lst acc]) H3)) fun σ2 M2 W2 μ2 H2 τ2 p2 f2 e2 => ?_)
      · rw [wipe_wipe] at key
        exact key
      · refine p2 W2 μ2 H2 τ2 f2.ok f2.sim e2 _ fun b M3 W3 μ3 H3 ⟨p3, p4⟩ f3 => ?_
        have gx3 := f2.trans f3
        cases b with
        | false =>
          refine iteF ?_
          obtain ⟨M5, e5, p5⟩ := p4 rfl
          subst e5
          have hμ := same gx3 (by simp [(hI _ _ _ p5).1])
          subst hμ
          exact ⟨hlt, acc, M5, W3, p5, (g1.trans gx).trans gx3⟩
        | true =>
          refine iteT ?_
          refine p3 rfl W3 μ3 H3 τ2 f3.ok f3.sim (f3.re e2) _ fun y M4 W4 μ4 H4 v ⟨z, M5, ez, e5, hz, p5⟩ f4 r4 => ?_
          subst ez; subst e5
          have gx4 := gx3.trans f4
          have hM5 : M5.length = n := (hI _ _ _ p5).1
          have hμ := same gx4 (by simp [hM5])
          subst hμ
          obtain ⟨vs', h1, h2⟩ := f4.sim.ob n Dd (.lst acc) hDk (by rw [← hM5, List.getElem?_append_right (Nat.le_refl _), Nat.sub_self]; rfl)
          have g5 := go_set (mo := .lst (acc ++ [z])) (u := .lst (vs' ++ [v])) f4.ok f4.sim hDk ⟨_, upd_same, RDs.append h2 (RDs.one r4)⟩
          have eM : (M5 ++ [MO.lst acc]).set n (.lst (acc ++ [z])) = M5 ++ [.lst (acc ++ [z])] := by
            rw [List.set_append_right _ _ (by omega), hM5, Nat.sub_self]; rfl
          rw [eM] at g5
          exact ⟨vs', h1, by rw [← h2.length]; exact hz, hlt, acc ++ [z], M5, W4, p5, ((g1.trans gx).trans gx4).trans g5⟩
    · have hil : i = items.length := by omega
      subst hil
      refine .inl ⟨hok.2, ?_⟩
      obtain ⟨vs', h1, h2⟩ := g1.sim.ob n Dd (.lst acc) hDk (by rw [← hM', List.getElem?_append_right (Nat.le_refl _), Nat.sub_self]; rfl)
      by_cases hbl : ∀ o ∈ (M' ++ [MO.lst acc]).take n, o.below n = true
      · have g3 := go_frz g1 (Nat.le_of_eq hl) hB hbl (Nat.le_refl _) hDk h1
        have em : (M' ++ [MO.lst acc]).take n = M' := by rw [List.take_append_of_le_length (by omega), List.take_of_length_le (by omega)]
        have eμ : (μ1 ++ [Dd]).take n = μ1 := by rw [List.take_append_of_le_length (by omega), List.take_of_length_le (by omega)]
        rw [em, eμ] at g3
        exact q _ _ _ _ _ _ (hd _ _ hi1) (f1.trans g3) ⟨Dd, vs', rfl, upd_same, RDs.mono (same_upd (g1.sim.out Dd (List.mem_of_getElem? hDk))) h2⟩
      · refine absurd (fun ob hob => ?_) hbl
        rw [List.take_append_of_le_length (by omega), List.take_of_length_le (by omega)] at hob
        exact List.all_eq_true.mp (hI _ _ _ hi1).2 ob hob
end
end Al

namespace Al
open PySem PyProof.Rows L2
/-! ### sequences, by what they hold -/
inductive SV (M : List MO) : AV → List D → Prop
  | lst (l : List D) : SV M (.d (.lst l)) l
  | scr (l : List D) : SV M (.d (.scr l)) l
  | mm {k : Nat} {l : List D} (h : M[k]? = some (.lst l)) : SV M (.m k) l
section
variable {B : Base} {K : PySem.W.Frag} {σ : AEnv} {M : List MO} {ta tb te : TE} {x y : AV} {Φ : AV → List MO → Prop} {W H : Hp} {μ : List Addr}
theorem SV.run {l : List D} {v : V} (h : SV M x l) (s : Sim K W μ M H) (r : RA K W μ x v) : ∃ a vs, v = .ref a ∧ SqL K H a vs ∧ RDs K W l vs := by
  cases h with
  | lst l => obtain ⟨a, vs, rfl, h1, h2⟩ := r; exact ⟨a, vs, rfl, SqL.of (s.sub _ _ h1), h2⟩
  | scr l => obtain ⟨a, vs, rfl, h1, h2⟩ := r; exact ⟨a, vs, rfl, s.sub.seq h1, h2⟩
  | @mm k l hm =>
    obtain ⟨a, ha, rfl⟩ := r
    obtain ⟨vs, h1, h2⟩ := s.ob k a _ ha hm
    exact ⟨a, vs, rfl, SqL.of h1, h2⟩
/-- a list that may be joined to another one -/
inductive SL (M : List MO) : AV → List D → Prop
  | lst (l : List D) : SL M (.d (.lst l)) l
  | mm {k : Nat} {l : List D} (h : M[k]? = some (.lst l)) : SL M (.m k) l
theorem SL.run {l : List D} {v : V} (h : SL M x l) (s : Sim K W μ M H) (r : RA K W μ x v) : ∃ a vs, v = .ref a ∧ H a = some (.lst vs) ∧ RDs K W l vs := by
  cases h with
  | lst l => obtain ⟨a, vs, rfl, h1, h2⟩ := r; exact ⟨a, vs, rfl, s.sub _ _ h1, h2⟩
  | @mm k l hm =>
    obtain ⟨a, ha, rfl⟩ := r
    obtain ⟨vs, h1, h2⟩ := s.ob k a _ ha hm
    exact ⟨a, vs, rfl, h1, h2⟩
theorem ra_one {xs : List V} (r : RAs K W μ [x] xs) : ∃ v, xs = [v] ∧ RA K W μ x v := by
  obtain ⟨v, t, rfl, h, rfl⟩ := r
  exact ⟨v, rfl, h⟩
theorem ra_two {xs : List V} (r : RAs K W μ [x, y] xs) : ∃ v w, xs = [v, w] ∧ RA K W μ x v ∧ RA K W μ y w := by
  obtain ⟨v, t, rfl, h, w, t', rfl, h', rfl⟩ := r
  exact ⟨v, w, rfl, h, h'⟩
theorem ras_cons {l : List AV} {v : V} {vs : List V} (h : RA K W μ x v) (t : RAs K W μ l vs) : RAs K W μ (x :: l) (v :: vs) := ⟨v, vs, rfl, h, t⟩
theorem ac_len {l : List D} (h : SV M x l) (k : Φ (.d (.int (l.length : Int))) M) : AC B K (fun xs H Q => ∃ p ys, xs = [.ref p] ∧ (SqL K H p ys ∨ SqT K H p ys) ∧ Q (.int ys.length) H) [x] M Φ := fun W μ H us o s r Q q => by
  obtain ⟨v, rfl, r'⟩ := ra_one r
  obtain ⟨a, vs, rfl, h1, h2⟩ := h.run s r'
  exact ⟨a, vs, rfl, .inl h1, by rw [← h2.length]; exact q _ _ _ _ _ _ k (.refl o s) rfl⟩
theorem ac_lenT {l : List D} (k : Φ (.d (.int (l.length : Int))) M) : AC B K (fun xs H Q => ∃ p ys, xs = [.ref p] ∧ (SqL K H p ys ∨ SqT K H p ys) ∧ Q (.int ys.length) H) [.d (.tup l)] M Φ := fun W μ H us o s r Q q => by
  obtain ⟨v, rfl, r'⟩ := ra_one r
  obtain ⟨a, vs, rfl, h1, h2⟩ := r'
  exact ⟨a, vs, rfl, .inr (sqt_mono s.sub h1), by rw [← h2.length]; exact q _ _ _ _ _ _ k (.refl o s) rfl⟩
theorem ac_abs {i : Int} (k : Φ (.d (.int (if i < 0 then -i else i))) M) : AC B K (fun xs H Q => ∃ i, xs = [.int i] ∧ Q (.int (if i < 0 then -i else i)) H) [.d (.int i)] M Φ := fun W μ H us o s r Q q => by
  obtain ⟨v, rfl, r'⟩ := ra_one r
  cases r'
  exact ⟨i, rfl, q _ _ _ _ _ _ k (.refl o s) rfl⟩
theorem ac_min {i j : Int} (k : Φ (.d (.int (if j < i then j else i))) M) : AC B K (fun xs H Q => ∃ i j, xs = [.int i, .int j] ∧ Q (.int (if j < i then j else i)) H) [.d (.int i), .d (.int j)] M Φ := fun W μ H us o s r Q q => by
  obtain ⟨v, w, rfl, r1, r2⟩ := ra_two r
  cases r1; cases r2
  exact ⟨i, j, rfl, q _ _ _ _ _ _ k (.refl o s) rfl⟩
theorem ac_max {i j : Int} (k : Φ (.d (.int (if j > i then j else i))) M) : AC B K (fun xs H Q => ∃ i j, xs = [.int i, .int j] ∧ Q (.int (if j > i then j else i)) H) [.d (.int i), .d (.int j)] M Φ := fun W μ H us o s r Q q => by
  obtain ⟨v, w, rfl, r1, r2⟩ := ra_two r
  cases r1; cases r2
  exact ⟨i, j, rfl, q _ _ _ _ _ _ k (.refl o s) rfl⟩
theorem ac_str {i : Int} (hz : i.natAbs.log2 < 1920) (k : Φ (.d (.str (toString i))) M) : AC B K (fun xs H Q => ∃ i, xs = [.int i] ∧ i.natAbs.log2 < 1920 ∧ Q (.str (toString i)) H) [.d (.int i)] M Φ := fun W μ H us o s r Q q => by
  obtain ⟨v, rfl, r'⟩ := ra_one r
  cases r'
  exact ⟨i, rfl, hz, q _ _ _ _ _ _ k (.refl o s) rfl⟩
/-- list(xs), that will change -/
theorem ac_listM {l : List D} (h : SV M x l) (k : Φ (.m M.length) (M ++ [.lst l])) : AC B K (fun xs H Q => ∃ p ys, xs = [.ref p] ∧ (SqL K H p ys ∨ SqT K H p ys) ∧ ∀ l, H l = none → Q (.ref l) (upd H l (.lst ys))) [x] M Φ := fun W μ H us o s r Q q => by
  obtain ⟨v, rfl, r'⟩ := ra_one r
  obtain ⟨a, vs, rfl, h1, h2⟩ := h.run s r'
  refine ⟨a, vs, rfl, .inl h1, fun p hp => ?_⟩
  refine q _ _ _ _ _ _ k (go_mut (mo := .lst l) o s hp ⟨vs, upd_same, h2⟩) ⟨p, ?_, rfl⟩
  rw [← s.len, List.getElem?_append_right (Nat.le_refl _)]; simp
theorem ac_list {l : List D} (h : SV M x l) (k : Φ (.d (.lst l)) M) : AC B K (fun xs H Q => ∃ p ys, xs = [.ref p] ∧ (SqL K H p ys ∨ SqT K H p ys) ∧ ∀ l, H l = none → Q (.ref l) (upd H l (.lst ys))) [x] M Φ := fun W μ H us o s r Q q => by
  obtain ⟨v, rfl, r'⟩ := ra_one r
  obtain ⟨a, vs, rfl, h1, h2⟩ := h.run s r'
  refine ⟨a, vs, rfl, .inl h1, fun p hp => ?_⟩
  have g := go_new (u := .lst vs) o s hp
  exact q _ _ _ _ _ _ k g ⟨p, vs, rfl, upd_same, h2.mono g.wext⟩
theorem ac_tuple {l : List D} (h : SV M x l) (k : Φ (.d (.tup l)) M) : AC B K (fun xs H Q => ∃ p ys, xs = [.ref p] ∧ ((SqL K H p ys ∧ ∀ l, H l = none → Q (.ref l) (upd H l (.tup ys))) ∨ (SqT K H p ys ∧ Q (.ref p) H))) [x] M Φ := fun W μ H us o s r Q q => by
  obtain ⟨v, rfl, r'⟩ := ra_one r
  obtain ⟨a, vs, rfl, h1, h2⟩ := h.run s r'
  refine ⟨a, vs, rfl, .inl ⟨h1, fun p hp => ?_⟩⟩
  have g := go_new (u := .tup vs) o s hp
  exact q _ _ _ _ _ _ k g ⟨p, vs, rfl, .inl (.inl upd_same), h2.mono g.wext⟩
/-- xs + ys -/
theorem ar_cat {l m : List D} (h : SL M x l) (h' : SL M y m) (hz : l.length + m.length ≤ sizeLine) (k : Φ (.d (.lst (l ++ m))) M) : AR B K rCat x y M Φ := fun W μ H u w o s hu hw Q q => by
  obtain ⟨a, vs, rfl, h1, h2⟩ := h.run s hu
  obtain ⟨b, ws, rfl, h3, h4⟩ := h'.run s hw
  refine ⟨a, b, vs, ws, rfl, rfl, h1, h3, by rw [← h2.length, ← h4.length]; exact hz, fun p hp => ?_⟩
  have g := go_new (u := .lst (vs ++ ws)) o s hp
  exact q _ _ _ _ _ _ k g ⟨p, _, rfl, upd_same, (h2.append h4).mono g.wext⟩

/-! ### == of data -/
mutual
def D.pure : D → Bool
  | .non => true
  | .bl _ => true
  | .int _ => true
  | .str _ => true
  | .tup l => D.pures l
  | .lst l => D.pures l
  | .scr l => D.pures l
  | .ty _ => false
  | .adr _ => false
  | .ins _ _ _ => false
def D.pures : List D → Bool
  | [] => true
  | d :: l => d.pure && D.pures l
end
mutual
def toP : D → PyData
  | .non => .none
  | .bl b => .bool b
  | .int i => .int i
  | .str s => .str s
  | .tup l => .tuple (toPs l)
  | .lst l => .list (toPs l)
  | .scr l => .list (toPs l)
  | .ty _ => .none
  | .adr _ => .none
  | .ins _ _ _ => .none
def toPs : List D → List PyData
  | [] => []
  | d :: l => toP d :: toPs l
end
mutual
theorem dp_of (e : Same W H) : ∀ {d : D} {v : V}, d.pure = true → RD K W d v → Dp K H v (toP d)
  | .non, _, _, h => by cases h; exact .non
  | .bl _, _, _, h => by cases h; exact .bl _
  | .int _, _, _, h => by cases h; exact .int _
  | .str _, _, _, h => by cases h; exact .str _
  | .ty _, _, hp, h => by cases hp
  | .adr _, _, hp, h => by cases hp
  | .ins _ _ _, _, hp, h => by cases hp
  | .tup l, _, hp, ⟨a, vs, e1, h, r⟩ => by subst e1; exact .tup (sqt_mono e h) (dps_of e hp r)
  | .lst l, _, hp, ⟨a, vs, e1, h, r⟩ => by subst e1; exact .lst (SqL.of (e _ _ h)) (dps_of e hp r)
  | .scr l, _, hp, ⟨a, vs, e1, h, r⟩ => by subst e1; exact .lst (e.seq h) (dps_of e hp r)
theorem dps_of (e : Same W H) : ∀ {l : List D} {vs : List V}, D.pures l = true → RDs K W l vs → DpAll K H vs (toPs l)
  | [], _, _, h => by cases h; exact .nil
  | d :: l, _, hp, ⟨v, r, e1, h, t⟩ => by
    subst e1
    have hp : (d.pure && D.pures l) = true := hp
    rw [Bool.and_eq_true] at hp
    exact .cons (dp_of e hp.1 h) (dps_of e hp.2 t)
end
/-- data that == is asked of -/
inductive PV (M : List MO) : AV → PyData → Prop
  | d {x : D} (h : x.pure = true) : PV M (.d x) (toP x)
  | mm {k : Nat} {l : List D} (h : M[k]? = some (.lst l)) (hp : D.pures l = true) : PV M (.m k) (.list (toPs l))
theorem PV.run {p : PyData} {v : V} (h : PV M x p) (s : Sim K W μ M H) (r : RA K W μ x v) : Dp K H v p := by
  cases h with
  | d h => exact dp_of s.sub h r
  | @mm k l hm hp =>
    obtain ⟨a, ha, rfl⟩ := r
    obtain ⟨vs, h1, h2⟩ := s.ob k a _ ha hm
    exact .lst (SqL.of h1) (dps_of s.sub hp h2)
theorem ar_eqD {p q : PyData} (hx : PV M x p) (hy : PV M y q) (h1 : SeqAt.shaped p = true) (h2 : SeqAt.shaped q = true) (k : Φ (.d (.bl (PyData.eqv p q))) M) : AR B K (rEqD K) x y M Φ := fun W μ H u w o s hu hw Q qq =>
  ⟨p, q, hx.run s hu, hy.run s hw, h1, h2, qq _ _ _ _ _ _ k (.refl o s) rfl⟩
theorem ar_neD {p q : PyData} (hx : PV M x p) (hy : PV M y q) (h1 : SeqAt.shaped p = true) (h2 : SeqAt.shaped q = true) (k : Φ (.d (.bl (!PyData.eqv p q))) M) : AR B K (rNeD K) x y M Φ := fun W μ H u w o s hu hw Q qq =>
  ⟨p, q, hx.run s hu, hy.run s hw, h1, h2, qq _ _ _ _ _ _ k (.refl o s) rfl⟩

/-! ### isinstance -/
/-- what isinstance asks of a class of the program whose instances are looked at -/
structure InsC (K : PySem.W.Frag) (C : Addr) : Prop where
  cl : Cls K C
  ha : PySem.W.findIn K (.ref C) "__class__" = some (some (.builtin "object.__class__"))
  hn : PySem.W.specialIn K (.builtin "object.__class__") "__get__" = some (some (.builtin "getset_descriptor.__get__"))
  htk : PySem.W.takesIn K (.builtin "object.__class__") = some true
  hm : PySem.W.mroIn K C (.type "object") = some true
def tyD : D → Value
  | .non => .type "NoneType"
  | .bl _ => .type "bool"
  | .int _ => .type "int"
  | .str _ => .type "str"
  | .tup _ => .type "tuple"
  | .lst _ => .type "list"
  | .scr _ => .type "list"
  | .ins C _ _ => .ref C
  | .adr _ => .none
  | .ty _ => .none
def TyK (K : PySem.W.Frag) : D → Prop
  | .ins C _ _ => InsC K C
  | .adr _ => False
  | .ty _ => False
  | _ => True
theorem tyx_of {d : D} {v : V} (e : Same W H) (hk : TyK K d) (h : RD K W d v) : TyX K H v (tyD d) := by
  cases d with
  | non => cases h; exact .base .non
  | bl b => cases h; exact .base (.bl _)
  | int b => cases h; exact .base (.int _)
  | str b => cases h; exact .base (.str _)
  | ty b => exact hk.elim
  | adr b => exact hk.elim
  | tup l =>
    obtain ⟨a, vs, rfl, h1, _⟩ := h
    rcases sqt_mono e h1 with (h1 | ⟨o, h1⟩) | ⟨o, its, n, h1, h2, _⟩
    · exact .base (.tup h1)
    · exact .fTuple h1
    · exact .kTuple h1 h2
  | lst l =>
    obtain ⟨a, vs, rfl, h1, _⟩ := h
    exact .base (.lst (e _ _ h1))
  | scr l =>
    obtain ⟨a, vs, rfl, h1, _⟩ := h
    rcases e.seq h1 with (h1 | ⟨o, h1⟩) | ⟨o, its, n, h1, h2, _⟩
    · exact .base (.lst h1)
    · exact .base (.frz h1)
    · exact .kList h1 h2
  | ins C ns l =>
    obtain ⟨a, dx, vs, rfl, h1, _⟩ := h
    exact .base (.ins (e _ _ h1) hk.cl hk.ha hk.hn hk.htk hk.hm)
theorem ac_isiB {d : D} {n : String} {b : Bool} (hk : TyK K d) (hb : PySem.W.kitOne K (tyD d) (.type n) = some b) (k : Φ (.d (.bl b)) M) : AC B K (rIsi K) [.d d, .d (.ty n)] M Φ := fun W μ H us o s r Q q => by
  obtain ⟨v, w, rfl, r1, r2⟩ := ra_two r
  cases r2
  exact ⟨v, _, tyD d, .type n, b, rfl, .ty n, tyx_of s.sub hk r1, hb, q _ _ _ _ _ _ k (.refl o s) rfl⟩
theorem ac_isiC {d : D} {C : Addr} {b : Bool} (hk : TyK K d) (hb : PySem.W.kitOne K (tyD d) (.ref C) = some b) (k : Φ (.d (.bl b)) M) : AC B K (rIsi K) [.d d, .d (.adr C)] M Φ := fun W μ H us o s r Q q => by
  obtain ⟨v, w, rfl, r1, r2⟩ := ra_two r
  cases r2
  exact ⟨v, _, tyD d, .ref C, b, rfl, .own C, tyx_of s.sub hk r1, hb, q _ _ _ _ _ _ k (.refl o s) rfl⟩

/-! ### f-strings -/
theorem ae_fmt (h : AE B K te σ M fun x M1 => (∃ y : Str, x = .d (.str y) ∧ y.length ≤ sizeLine ∧ Φ (.d (.str y)) M1) ∨ ∃ i : Int, x = .d (.int i) ∧ i.natAbs.log2 < 1920 ∧ Φ (.d (.str (toString i))) M1) : AE B K (tFmt te) σ M Φ := fun W μ H τ o s e Q q =>
  h W μ H τ o s e _ fun x M1 W1 μ1 H1 v p f1 r1 => by
    rcases p with ⟨y, rfl, hz, p⟩ | ⟨i, rfl, hz, p⟩
    · cases r1; exact .inl ⟨y, rfl, hz, q _ _ _ _ _ _ p f1 rfl⟩
    · cases r1; exact .inr ⟨i, rfl, hz, q _ _ _ _ _ _ p f1 rfl⟩
theorem ae_js0 {acc : Str} (k : Φ (.d (.str acc)) M) : AE B K (fun σ H Q => tJs [] acc σ H fun out H1 => Q (.str out) H1) σ M Φ := fun W μ H τ o s e Q q => q _ _ _ _ _ _ k (.refl o s) rfl
theorem ae_js {t : TE} {ts : List TE} {acc : Str} (h : AE B K t σ M fun x M1 => ∃ y : Str, x = .d (.str y) ∧ (acc ++ y).length ≤ sizeLine ∧ AE B K (fun σ H Q => tJs ts (acc ++ y) σ H fun out H1 => Q (.str out) H1) σ M1 Φ) : AE B K (fun σ H Q => tJs (t :: ts) acc σ H fun out H1 => Q (.str out) H1) σ M Φ := fun W μ H τ o s e Q q =>
  h W μ H τ o s e _ fun x M1 W1 μ1 H1 v ⟨y, e1, hz, p⟩ f1 r1 => by
    subst e1; cases r1
    exact ⟨y, rfl, hz, p W1 μ1 H1 τ f1.ok f1.sim (f1.re e) _ fun z M2 W2 μ2 H2 w p2 f2 r2 => q _ _ _ _ _ _ p2 (f1.trans f2) r2⟩

/-! ### methods, new instances -/
theorem lookup_zip_none {m : Str} : ∀ {ns : List Str} {vs : List V}, m ∉ ns → (ns.zip vs).lookup m = none
  | [], _, _ => rfl
  | n :: ns, [], _ => rfl
  | n :: ns, v :: vs, h => by
    rw [List.zip_cons_cons, List.lookup_cons]
    have : (m == n) = false := beq_eq_false_iff_ne.mpr fun e => h (by rw [e]; exact List.mem_cons_self)
    rw [this]
    exact lookup_zip_none fun z => h (List.mem_cons_of_mem _ z)
theorem ae_meth {asp : ASp} {C : Addr} {m : Str} {dvs : List V} {das : List AV} {E : XK} {t : TA} {Ψ : Exc → List MO → Prop} (mono : Mono asp) (qe : EFits B K Ψ E) (hd : ∀ W μ, RAs K W μ das dvs)
    (h : AE B K ta σ M fun x M1 => ∃ ns l, x = .d (.ins C ns l) ∧ m ∉ ns ∧ AA B K t σ M1 fun xs M2 => Sent asp (x :: (xs ++ das)) M2 Φ Ψ) : AE B K (tMeth C m (conc K asp) dvs E ta t) σ M Φ := fun W μ H τ o s e Q q =>
  h W μ H τ o s e _ fun x M1 W1 μ1 H1 v ⟨ns, l, e1, hm, p⟩ f1 r1 => by
    subst e1
    have r1' := r1
    obtain ⟨a, dx, vs, rfl, h1, h2, h3⟩ := r1
    refine ⟨a, dx, ns.zip vs, rfl, f1.sim.sub _ _ h1, lookup_zip_none hm, p W1 μ1 H1 τ f1.ok f1.sim (f1.re e) _ fun xs M2 W2 μ2 H2 ws p2 f2 r2 => ?_⟩
    exact sent_run mono f2.ok f2.sim (ras_cons (f2.ra r1') (RAs.append r2 (hd _ _))) p2 (fun z M' W' μ' H' v p3 f3 r3 => q _ _ _ _ _ _ p3 ((f1.trans f2).trans f3) r3) qe
/-- what a new instance is, at its __init__: the last mutable object -/
theorem go_made {C x dx : Addr} (o : Ok B W μ H) (s : Sim K W μ M H) (hx : H x = none) (hdx : H dx = none) (ne : dx ≠ x) : ∃ W', Go B K W μ W' (μ ++ [x]) (M ++ [.ins C [] []]) (upd (upd H dx (.own x)) x (.ins C dx [])) := by
  have g1 := go_new (u := .own x) o s hdx
  have g2 := go_mut (p := x) (u := .ins C dx []) (mo := .ins C [] []) g1.ok g1.sim (by rw [upd_ne ne.symm]; exact hx) ⟨dx, [], upd_same, rfl, rfl⟩
  exact ⟨_, g1.trans g2⟩
/-- the new instance is frozen behind its __init__ -/
def MadeOk (C : Addr) (n : Nat) (Φ : AV → List MO → Prop) : AV → List MO → Prop := fun z M2 => z = .d .non ∧ ∃ ns l M3, M2 = M3 ++ [.ins C ns (l.map AV.d)] ∧ M3.length = n ∧ (∀ o ∈ M3, o.below n = true) ∧ Φ (.d (.ins C ns l)) M3
theorem made_run {C x : Addr} {W1 : Hp} {μ1 : List Addr} {M1 : List MO} {H1 : Hp} {Q : VK} (f1 : Go B K W μ W1 μ1 M1 H1) (hn : μ1.length = M1.length)
    (q : ∀ z M' W' μ' H' v, Φ z M' → Go B K W μ W' μ' M' H' → RA K W' μ' z v → Q v H') :
    ∀ z M' W' μ' H' v Wm Hm, Go B K W1 μ1 Wm (μ1 ++ [x]) (M1 ++ [.ins C [] []]) Hm → MadeOk C M1.length Φ z M' → Go B K Wm (μ1 ++ [x]) W' μ' M' H' → RA K W' μ' z v → v = .non ∧ Q (.ref x) H' := by
  intro z M' W' μ' H' v Wm Hm gm ⟨ez, ns, l, M3, eM, h3, hb, p⟩ g r
  subst ez; subst eM
  cases r
  refine ⟨rfl, ?_⟩
  obtain ⟨e', he'⟩ := g.mext
  have hz := g.sim.len
  rw [he'] at hz
  have : e'.length = 0 := by simp at hz; omega
  rw [List.eq_nil_of_length_eq_zero this, List.append_nil] at he'
  subst he'
  have hk : (μ1 ++ [x])[M1.length]? = some x := by rw [← hn, List.getElem?_append_right (Nat.le_refl _), Nat.sub_self]; rfl
  obtain ⟨dx, vs, w1, w2, w3⟩ := g.sim.ob M1.length x (.ins C ns (l.map AV.d)) hk (by rw [← h3, List.getElem?_append_right (Nat.le_refl _), Nat.sub_self]; rfl)
  have hB : B.μ0.length ≤ M1.length := by
    obtain ⟨ext, e1, _⟩ := f1.ok.pre
    rw [← hn, e1, List.length_append]; omega
  have gg := gm.trans g
  have et : (M3 ++ [MO.ins C ns (l.map AV.d)]).take M1.length = M3 := by rw [List.take_append_of_le_length (by omega), List.take_of_length_le (by omega)]
  have eμ : (μ1 ++ [x]).take M1.length = μ1 := by rw [List.take_append_of_le_length (by omega), List.take_of_length_le (by omega)]
  have g3 := go_frz gg (Nat.le_of_eq hn) hB (fun o ho => hb o (by rw [et] at ho; exact ho)) (Nat.le_refl _) hk w1
  rw [et, eμ] at g3
  exact q _ _ _ _ _ _ p (f1.trans g3) ⟨x, dx, vs, rfl, upd_same, by simpa using w2, RDs.mono (same_upd (g.sim.out x (List.mem_of_getElem? hk))) w3.of_ds⟩
theorem ae_make {asp : ASp} {C : Addr} {dvs : List V} {das : List AV} {E : XK} {t : TA} {Ψ : Exc → List MO → Prop} (mono : Mono asp) (qe : EFits B K Ψ E) (hd : ∀ W μ, RAs K W μ das dvs)
    (h : AA B K t σ M fun xs M1 => Sent asp (.m M1.length :: (xs ++ das)) (M1 ++ [.ins C [] []]) (MadeOk C M1.length Φ) Ψ) : AE B K (tMake C (conc K asp) dvs E t) σ M Φ := fun W μ H τ o s e Q q =>
  h W μ H τ o s e _ fun xs M1 W1 μ1 H1 vs p f1 r1 x dx hx hdx ne => by
    obtain ⟨Wm, gm⟩ := go_made (C := C) f1.ok f1.sim hx hdx ne
    have rx : RA K Wm (μ1 ++ [x]) (.m M1.length) (.ref x) := ⟨x, by rw [← f1.sim.len, List.getElem?_append_right (Nat.le_refl _), Nat.sub_self]; rfl, rfl⟩
    refine sent_run mono gm.ok gm.sim (ras_cons rx (RAs.append (gm.ras r1) (hd _ _))) p (fun z M' W' μ' H' v p2 g r => ?_) qe
    exact made_run f1 f1.sim.len q z M' W' μ' H' v Wm _ gm p2 g r
theorem ae_makeK {asp : ASp} {C : Addr} {n m : Nat} {gV : List V → List V → List V} {gA : List AV → List AV → List AV} {E : XK} {t tk : TA} {Ψ : Exc → List MO → Prop} (mono : Mono asp) (qe : EFits B K Ψ E)
    (hg : ∀ W μ xs ys vs zs, RAs K W μ xs vs → RAs K W μ ys zs → RAs K W μ (gA xs ys) (gV vs zs))
    (h : AA B K t σ M fun xs M1 => AA B K tk σ M1 fun ys M2 => xs.length = n ∧ ys.length = m ∧ Sent asp (gA (.m M2.length :: xs) ys) (M2 ++ [.ins C [] []]) (MadeOk C M2.length Φ) Ψ) : AE B K (tMakeK C n m (conc K asp) gV E t tk) σ M Φ := fun W μ H τ o s e Q q =>
  h W μ H τ o s e _ fun xs M1 W1 μ1 H1 vs p f1 r1 => p W1 μ1 H1 τ f1.ok f1.sim (f1.re e) _ fun ys M2 W2 μ2 H2 zs ⟨l1, l2, p2⟩ f2 r2 => ⟨by rw [← r1.length]; exact l1, by rw [← r2.length]; exact l2, fun x dx hx hdx ne => by
    obtain ⟨Wm, gm⟩ := go_made (C := C) f2.ok f2.sim hx hdx ne
    have rx : RA K Wm (μ2 ++ [x]) (.m M2.length) (.ref x) := ⟨x, by rw [← f2.sim.len, List.getElem?_append_right (Nat.le_refl _), Nat.sub_self]; rfl, rfl⟩
    refine sent_run mono gm.ok gm.sim (hg _ _ _ _ _ _ (ras_cons rx (gm.ras (f2.ras r1))) (gm.ras r2)) p2 (fun z M' W' μ' H' v p3 g r => ?_) qe
    exact made_run (f1.trans f2) f2.sim.len q z M' W' μ' H' v Wm _ gm p3 g r⟩
end
end Al

namespace Ow
open PySem PySem.Spec PyProof.Rows PySem.SeqAt
open AutoSeq1 (wpAny_loadPart')
theorem list_declines (l x : Addr) (items : Array Value) (n : Nat) (dd : Option Addr) (sl : Array (Option Value)) :
    Meets (Builtin.«list.__eq__» ⟨[.ref l, .ref x], []⟩) (fun _ R s => s.heap.get? l = some { cls := .type "list", dict := dd, data := .seq items n, slots := sl } ∧ (∀ M : Model, PySem.W.Looks M s.heap (isInstance (.ref x) (.type "list")) false) ∧ R (.ok (.ret .notImplemented)) s) :=
  .of_wp fun prog w A R s h => by obtain ⟨hp, g, d, tk, os⟩ := s; obtain ⟨hl, hi, h⟩ := h; wp_walk using wpAny_loadPart' hl, (hi _).here; exact ⟨_, rfl, h⟩
theorem tuple_declines (l x : Addr) (items : Array Value) (n : Nat) (dd : Option Addr) (sl : Array (Option Value)) :
    Meets (Builtin.«tuple.__eq__» ⟨[.ref l, .ref x], []⟩) (fun _ R s => s.heap.get? l = some { cls := .type "tuple", dict := dd, data := .seq items n, slots := sl } ∧ (∀ M : Model, PySem.W.Looks M s.heap (isInstance (.ref x) (.type "tuple")) false) ∧ R (.ok (.ret .notImplemented)) s) :=
  .of_wp fun prog w A R s h => by obtain ⟨hp, g, d, tk, os⟩ := s; obtain ⟨hl, hi, h⟩ := h; wp_walk using wpAny_loadPart' hl, (hi _).here; exact ⟨_, rfl, h⟩
theorem int_declines (i : Int) (u : Tok) (x C dx : Addr) :
    Meets (Builtin.«int.__eq__» ⟨[.int i u, .ref x], []⟩) (fun _ R s => s.heap.get? x = some (PySem.W.instObj C dx) ∧ (∀ M : Model, PySem.W.Looks M s.heap (isInstance (.ref x) (.type "int")) false) ∧ R (.ok (.ret .notImplemented)) s) :=
  .of_wp fun prog w A R s h => by obtain ⟨hp, g, d, tk, os⟩ := s; obtain ⟨hl, hi, h⟩ := h; wp_walk using (hi _).here, wpAny_load hl; exact ⟨_, rfl, h⟩
theorem str_declines (i : Str) (u : Tok) (x C dx : Addr) :
    Meets (Builtin.«str.__eq__» ⟨[.str i u, .ref x], []⟩) (fun _ R s => s.heap.get? x = some (PySem.W.instObj C dx) ∧ (∀ M : Model, PySem.W.Looks M s.heap (isInstance (.ref x) (.type "str")) false) ∧ R (.ok (.ret .notImplemented)) s) :=
  .of_wp fun prog w A R s h => by obtain ⟨hp, g, d, tk, os⟩ := s; obtain ⟨hl, hi, h⟩ := h; wp_walk using (hi _).here, wpAny_load hl; exact ⟨_, rfl, h⟩
end Ow

namespace Ow
open PySem PySem.Spec PyProof.Rows PySem.SeqAt PySem.W
open AutoSeq1 (wpAny_loadPart')
section
variable {prog : Program} {w : World} {A : Around} {E : Value → Shared → Prop} {s : Shared} {K : PySem.W.Frag} {x C f : Addr} {ox : Obj} {od : Option Obj}
theorem inst_sub {M : Model} {T : String} {b : Bool} (X : K.In s.heap) (I : InstAt s.heap x ox C od) (h : mroIn K C (.type T) = some b) : Looks M s.heap (isInstance (.ref x) (.type T)) b := I.type.andThen (looks_mroIn X h)
/-- y == x, y of a built-in type whose == declines, x an instance with its own __eq__ -/
theorem rc_right {y : Value} {T id : String} {Q : Value → Shared → Prop} (hu : A.units < cLine) (X : K.In s.heap) (I : InstAt s.heap x ox C od) (hT : s.TypeIs y T) (hsl : Slot T "__eq__" id) (sub : mroIn K C (.type T) = some false)
    (hs : findIn K (.ref C) "__eq__" = some (some (.ref f))) (hf : isFn K (.ref f) = true) (hd : ∀ Q' : Value → Shared → Prop, Q' .notImplemented s → wpAny (model prog w) A (call (.builtin id) [y, .ref x]) Q' E s)
    (h : wpAny (model prog w) A (call (.ref f) [.ref x, y]) (PySem.W.CmpBack Q) E s) : wpAny (model prog w) A (richCompare .Eq y (.ref x)) Q E s := by
  have one : wpAny (model prog w) A (tryCompare (.ref x) "__eq__" y) (fun r s' => ∃ v, r = some v ∧ Q v s') E s := by
    unfold tryCompare
    refine wpAny_bind (ifBound_K X I hs hf (wpAny_mono h (fun v s' hv => ?_) fun _ _ e => e))
    cases v <;> first | exact hv.elim | exact wpAny_pure ⟨_, rfl, hv⟩
  simp only [richCompare, cmpInfo_Eq, hT.oneThing_none]
  refine wpAny_holding (wpAny_bind (wpAny_cRoomFor hu ?_))
  refine wpAny_bind (wpAny_typeOf hT (wpAny_bind (I.type.here ?_)))
  have hne : ((Value.type T != Value.ref C) = true) := rfl
  simp only [hne, if_true]
  refine wpAny_bind ((looks_mroIn X sub).here ?_)
  simp only [Bool.false_eq_true, if_false, Bool.not_false, if_true]
  refine wpAny_bind (m := tryCompare y _ (.ref x)) (wpAny_tryCompare_declines hT hsl (hd _ ⟨rfl, ?_⟩))
  refine wpAny_bind (m := tryCompare (.ref x) _ y) (wpAny_mono one (fun r s' z => ?_) fun _ _ e => e)
  obtain ⟨v, rfl, hq⟩ := z
  exact wpAny_pure hq
/-- x != y by object.__ne__ over the own __eq__ -/
def NotBack (Q : Value → Shared → Prop) (v : Value) (s' : Shared) : Prop := ∃ b, v = .bool b ∧ Q (.bool (!b)) s'
theorem ne_own {b : Value} {tb : Value} {Q : Value → Shared → Prop} (hu : A.in1.units < cLine) (X : K.In s.heap) (I : InstAt s.heap x ox C od) (hb : Looks (model prog w) s.heap (typeOf b) tb) (hn : notFirst K C tb = true)
    (hne : findIn K (.ref C) "__ne__" = some (some (.builtin "object.__ne__"))) (ho : mroIn K C (.type "object") = some true) (hs : findIn K (.ref C) "__eq__" = some (some (.ref f))) (hf : isFn K (.ref f) = true)
    (h : wpAny (model prog w) A.in1 (call (.ref f) [.ref x, b]) (NotBack Q) E s) : wpAny (model prog w) A (richCompare .NotEq (.ref x) b) Q E s := by
  have hu0 : A.units < cLine := by
    have : A.in1.units = A.units + 1 := rfl
    omega
  have in1 : wpAny (model prog w) A.in1 (Builtin.«object.__ne__» ⟨[.ref x, b], []⟩) (fun fin s' => ∃ v, fin = .done (.ret v) ∧ v ≠ .notImplemented ∧ Q v s') E s := by
    unfold Builtin.«object.__ne__»
    refine wpAny_bind (m := slotArgs "__ne__" 1 _) (wpAny_pure ?_)
    refine wpAny_bind (wpAny_cRoomFor hu ?_)
    refine wpAny_bind (m := callSpecialIfBound? (.ref x) _ [b]) (ifBound_K X I hs hf (wpAny_mono h (fun v s' hv => ?_) fun _ _ e => e))
    obtain ⟨k, rfl, q⟩ := hv
    refine wpAny_bind (wpAny_truthy_bool ?_)
    exact wpAny_pure ⟨_, rfl, (fun z => nomatch z), q⟩
  have one : wpAny (model prog w) A (tryCompare (.ref x) "__ne__" b) (fun r s' => ∃ v, r = some v ∧ Q v s') E s := by
    unfold tryCompare
    refine wpAny_bind (NtL.csib ((I.type (M := model prog w)).andThen (looks_findIn X hne)) rfl ?_)
    refine wpAny_call (codeAny_call_builtin F.cmp_object.ne.plain F.cmpEntry_ne (@check_slot (model prog w) _ _ _ "object.__ne__" "object" "__ne__" (.ref x) [b] [] _ F.cmpKind_ne F.cmpSplit_ne (inst_sub X I ho) (F.cmpArgs_ne _ _) ?_))
    refine wpAny_mono in1 (fun fin s' q => ?_) fun _ _ z => z
    obtain ⟨v, rfl, hv, q⟩ := q
    show wpAny _ _ _ _ _ _
    cases v <;> first | exact absurd rfl hv | exact wpAny_pure ⟨_, rfl, q⟩
  simp only [richCompare, cmpInfo_NotEq, oneThing_ref]
  refine wpAny_holding (wpAny_bind (wpAny_cRoomFor hu0 ?_))
  refine wpAny_bind (I.type.here (wpAny_bind (hb.here ?_)))
  split
  · rename_i q
    have e : subIn K tb (.ref C) = some false := by
      rcases Bool.or_eq_true_iff.mp hn with e | e
      · rw [beq_iff_eq.mp e] at q; simp at q
      · exact beq_iff_eq.mp e
    refine wpAny_bind ((looks_subIn X e).here ?_)
    simp only [Bool.false_eq_true, if_false]
    refine wpAny_bind (wpAny_mono one (fun r s' z => ?_) fun _ _ e => e)
    obtain ⟨v, rfl, hq⟩ := z
    exact wpAny_pure hq
  · refine wpAny_bind (wpAny_pure ?_)
    simp only [Bool.false_eq_true, if_false]
    refine wpAny_bind (wpAny_mono one (fun r s' z => ?_) fun _ _ e => e)
    obtain ⟨v, rfl, hq⟩ := z
    exact wpAny_pure hq
end
end Ow

namespace Ow
open PySem PySem.Spec PyProof.Rows PySem.SeqAt PySem.W
open AutoSeq1 (wpAny_loadPart')
open MeetsSeq MeetsSeq2 MeetsSeq3 SeqRoads2
section
variable {prog : Program} {w : World} {A : Around} {R : Result → Shared → Prop}
/-- x in the list at l, whose items stand still while == of each is asked -/
theorem contains_go (l : Addr) (x : Value) (N : Nat) (I : Nat → Shared → Prop)
    (hl : ∀ i s, I i s → ∃ (items : Array Value) (n : Nat), s.heap.get? l = some { cls := .type "list", data := .seq items n } ∧ items.size = N ∧
      ∀ h1 : i < items.size, wpAny (model prog w) A.in1 (eqBool items[i] x) (fun r s' => (r = true → R (.ok (.ret (.bool true))) s') ∧ (r = false → I (i + 1) s')) (fun e s' => R (.error e) s') s)
    (fin : ∀ s, I N s → R (.ok (.ret (.bool false))) s) (k : Nat) :
    ∀ i : Nat, N - i = k → i ≤ N → ∀ s, I i s →
      wpAny (model prog w) A.in1 (Builtin.«list.__contains__.loop» ⟨[.ref l, x, rawInt i], []⟩) (GQ.FinOf prog w A R) (fun e s' => R (.error e) s') s := by
  induction k with
  | zero =>
    intro i hk hi s h
    obtain ⟨items, n, hl1, hs1, _⟩ := hl _ _ h
    have hi' : i = N := by omega
    have hR : R (.ok (.ret (.bool false))) s := fin s (hi' ▸ h)
    obtain ⟨hp, g, d, tk, os⟩ := s
    wp_walk using wpAny_loadPart' hl1
    have hi1 : items[((i : Nat) : Int).toNat]? = none := by simp; omega
    rw [hi1]
    wp_walk
    exact hR
  | succ k ih =>
    intro i hk hi s h
    obtain ⟨items, n, hl1, hs1, turn⟩ := hl _ _ h
    have hlt : i < items.size := by omega
    have ht := turn hlt
    obtain ⟨hp, g, d, tk, os⟩ := s
    wp_walk using wpAny_loadPart' hl1
    have hi1 : items[((i : Nat) : Int).toNat]? = some items[i] := by simp [hlt]
    have hc : ((i : Int) + 1) = ((i + 1 : Nat) : Int) := by omega
    rw [hi1]
    refine wpAny_bind (wpAny_mono ht (fun r s2 h2 => ?_) fun _ _ x => x)
    obtain ⟨ht2, hf2⟩ := h2
    cases r with
    | true =>
      have q := ht2 rfl
      obtain ⟨hp2, g2, d2, tk2, os2⟩ := s2
      wp_walk
      exact q
    | false =>
      have hrec := ih (i + 1) (by omega) (by omega) s2 (hf2 rfl)
      obtain ⟨hp2, g2, d2, tk2, os2⟩ := s2
      wp_walk
      rw [hc]
      exact ⟨plainId_quiet plain_contains_loop _, codeAny_builtin entry_contains_loop (by
        rw [Around.under_plainId plain_contains_loop _]
        exact hrec)⟩
end
section
variable {prog : Program} {w : World} {A : Around} {E : Value → Shared → Prop} {s : Shared}
theorem in_go {l : Addr} {x : Value} {N : Nat} {Q : Bool → Shared → Prop} (I : Nat → Shared → Prop)
    (hl : ∀ i s, I i s → ∃ (items : Array Value) (n : Nat), s.heap.get? l = some { cls := .type "list", data := .seq items n } ∧ items.size = N ∧
      ∀ h1 : i < items.size, wpAny (model prog w) A.in1 (eqBool items[i] x) (fun r s' => (r = true → Q true s') ∧ (r = false → I (i + 1) s')) E s)
    (fin : ∀ s, I N s → Q false s) (h : I 0 s) : wpAny (model prog w) A (contains (.ref l) x) Q E s := by
  obtain ⟨items, n, hl1, _, _⟩ := hl _ _ h
  refine wpAny_contains_slot (T := "list") (id := "list.__contains__") ⟨_, hl1, rfl⟩ PySem.F.slot_list_contains (Q := Q) ?_
  refine GQ.call_here PySem.F.slot_list_contains ⟨_, hl1, rfl⟩ PySem.F.entry_list_contains (PySem.F.args_list_contains_2 _ _) ?_
  have hrec := contains_go (A := A) (R := wants (fun r s' => wpAny (model prog w) A (truthy r) Q E s') E) l x N I (fun i s hi => by
    obtain ⟨items, n, h1, h2, h3⟩ := hl i s hi
    exact ⟨items, n, h1, h2, fun hlt => wpAny_mono (h3 hlt) (fun r s' q => ⟨fun e => wpAny_truthy_bool (q.1 e), q.2⟩) fun _ _ z => z⟩) (fun s q => wpAny_truthy_bool (fin s q)) _ 0 rfl (Nat.zero_le _) s h
  obtain ⟨hp, g, d, tk, os⟩ := s
  wp_walk using wpAny_loadPart' hl1
  exact ⟨plainId_quiet plain_contains_loop _, codeAny_builtin entry_contains_loop (by
    rw [Around.under_plainId plain_contains_loop _]
    exact hrec)⟩
theorem op_in_go {l : Addr} {x : Value} {N : Nat} {Q : Value → Shared → Prop} (I : Nat → Shared → Prop)
    (hl : ∀ i s, I i s → ∃ (items : Array Value) (n : Nat), s.heap.get? l = some { cls := .type "list", data := .seq items n } ∧ items.size = N ∧
      ∀ h1 : i < items.size, wpAny (model prog w) A.in1 (eqBool items[i] x) (fun r s' => (r = true → Q (.bool true) s') ∧ (r = false → I (i + 1) s')) E s)
    (fin : ∀ s, I N s → Q (.bool false) s) (h : I 0 s) : wpAny (model prog w) A (compareOp .In x (.ref l)) Q E s := by
  unfold compareOp
  exact wpAny_bind (wpAny_mono (in_go (Q := fun b s' => Q (.bool b) s') I hl fin h) (fun b s' q => wpAny_pure q) fun _ _ z => z)
theorem op_notIn_go {l : Addr} {x : Value} {N : Nat} {Q : Value → Shared → Prop} (I : Nat → Shared → Prop)
    (hl : ∀ i s, I i s → ∃ (items : Array Value) (n : Nat), s.heap.get? l = some { cls := .type "list", data := .seq items n } ∧ items.size = N ∧
      ∀ h1 : i < items.size, wpAny (model prog w) A.in1 (eqBool items[i] x) (fun r s' => (r = true → Q (.bool false) s') ∧ (r = false → I (i + 1) s')) E s)
    (fin : ∀ s, I N s → Q (.bool true) s) (h : I 0 s) : wpAny (model prog w) A (compareOp .NotIn x (.ref l)) Q E s := by
  unfold compareOp
  exact wpAny_bind (wpAny_mono (in_go (Q := fun b s' => Q (.bool (!b)) s') I hl fin h) (fun b s' q => wpAny_pure q) fun _ _ z => z)
end
end Ow

namespace Ow
open PySem PySem.Spec PyProof.Rows L2
section
variable {X : Cx} {CX : CXT} {pins : List (Addr × Obj)} {σ : L2.St} {H : Hp} {s : Shared} {a C dx g : Addr} {n : Nat} {sp : Sp} {E : XK} {fd : FuncData} {ps : List Str}
/-- the facts of a class with its own methods -/
structure OwnM (K : PySem.W.Frag) (C : Addr) (m : Str) (g : Addr) : Prop where
  hs : PySem.W.findIn K (.ref C) m = some (some (.ref g))
  hf : PySem.W.isFn K (.ref g) = true
theorem inst_at {fs : List (Str × V)} (I : Inv X pins σ H s) (e : H a = some (.ins C dx fs)) : ∃ od, PySem.W.InstAt s.heap a (PySem.W.instObj C dx) C (some od) := by
  obtain ⟨mA, O, _⟩ := ins_get I.hok e
  obtain ⟨od, J, _⟩ := O.look
  exact ⟨od, J⟩
/-- the callee runs below the running body -/
theorem run_below {A : Around} {Q : VK} {us : List Value} {vs : List V} (F : FnOk X.prog X.w X.K X.mg X.base CX n g fd ps sp) (hb : Binds X.K fd ps []) (hr : Room n A) (e0 : Env0 X.prog X.w X.K X.mg X.base A X.stack s H) (hx : Passes CX X E) (I : Inv X pins σ H s) (r : Vals vs us) (h : sp vs H Q E) :
    wpAny (model X.prog X.w) A (call (.ref g) us) (EP X pins σ Q) X.xe s := by
  have hl : (us ++ []).length = ps.length := by rw [List.append_nil, ← r.length]; exact F.len _ _ _ _ h
  have hbb := hb s us I.kIn hl
  rw [List.append_nil] at hbb
  refine wpAny_call (codeAny_mono (F.run A X.stack s H ⟨us, []⟩ us vs Q E hr e0 hbb r h) fun r s' hq => ?_)
  cases r with
  | error e => exact hx pins σ H s e s' I hq
  | ok fl =>
    cases fl with
    | ret u => exact I.after hq
    | next => exact False.elim hq
    | brk => exact False.elim hq
    | cont => exact False.elim hq
theorem cmpback {P : Value → Shared → Prop} {z : V} {v : Value} {s' : Shared} (r : RelV z v) (h : P v s') : PySem.W.CmpBack P v s' := SlX.cmpback r h
/-- x == y, x != y: x an instance of the class at C with its own __eq__ -/
def rOwnE (K : PySem.W.Frag) (C : Addr) (sp : Sp) (E : XK) : R2 := fun x y H Q => ∃ a dx fs t, x = .ref a ∧ H a = some (.ins C dx fs) ∧ TyX K H y t ∧ PySem.W.notFirst K C t = true ∧ sp [x, y] H Q E
theorem op_eqO (hs : OwnM X.K C "__eq__" g) (F : FnOk X.prog X.w X.K X.mg X.base CX n g fd ps sp) (hb : Binds X.K fd ps []) (hr : Room n X.A) (hx : Passes CX X E) : OpR X (compareOp .Eq) (rOwnE X.K C sp E) := by
  intro pins s σ H x y v u Q I rx ry h
  obtain ⟨a, dx, fs, t, rfl, ha, ty, hn, q⟩ := h
  cases (show v = Value.ref a from rx)
  obtain ⟨od, J⟩ := inst_at I ha
  obtain ⟨P, kx, hP, _⟩ := kit_of I ry ty
  obtain ⟨m, hF⟩ := I.fr
  show wpAny _ _ (richCompare .Eq _ _) _ _ _
  refine PySem.W.cmp_K (op := .Eq) (tb := t) hr.units0 hF I.ok.mod.kin J (kx.ty _ _ I.kIn hP) hn hs.hs hs.hf ?_
  refine wpAny_mono (run_below (us := [.ref a, u]) (vs := [.ref a, y]) F hb hr I.env0 hx I (.cons rfl (.cons ry .nil)) q) (fun w s' z => ?_) fun _ _ x => x
  obtain ⟨z', H', I', rz, qz⟩ := z
  exact cmpback rz ⟨z', H', I', rz, qz⟩
def rOwnN (K : PySem.W.Frag) (C : Addr) (sp : Sp) (E : XK) : R2 := fun x y H Q => ∃ a dx fs t, x = .ref a ∧ H a = some (.ins C dx fs) ∧ TyX K H y t ∧ PySem.W.notFirst K C t = true ∧ sp [x, y] H (fun z H' => ∃ b, z = .bl b ∧ Q (.bl (!b)) H') E
theorem op_neO (hs : OwnM X.K C "__eq__" g) (hne : PySem.W.findIn X.K (.ref C) "__ne__" = some (some (.builtin "object.__ne__"))) (ho : PySem.W.mroIn X.K C (.type "object") = some true) (F : FnOk X.prog X.w X.K X.mg X.base CX n g fd ps sp) (hb : Binds X.K fd ps []) (hr : Room (n + 1) X.A) (hx : Passes CX X E) :
    OpR X (compareOp .NotEq) (rOwnN X.K C sp E) := by
  intro pins s σ H x y v u Q I rx ry h
  obtain ⟨a, dx, fs, t, rfl, ha, ty, hn, q⟩ := h
  cases (show v = Value.ref a from rx)
  obtain ⟨od, J⟩ := inst_at I ha
  obtain ⟨P, kx, hP, _⟩ := kit_of I ry ty
  show wpAny _ _ (richCompare .NotEq _ _) _ _ _
  have hr1 : Room n X.A.in1 := hr.in1
  refine ne_own hr1.units0 I.kIn J (kx.ty _ _ I.kIn hP) hn hne ho hs.hs hs.hf ?_
  refine wpAny_mono (run_below (us := [.ref a, u]) (vs := [.ref a, y]) F hb hr1 I.env0.in1 hx I (.cons rfl (.cons ry .nil)) q) (fun w s' z => ?_) fun _ _ x => x
  obtain ⟨z', H', I', rz, b, e, qz⟩ := z
  subst e
  cases (show w = Value.bool b from rz)
  exact ⟨b, rfl, .bl (!b), H', I', rfl, qz⟩
/-- len(x), repr(x) by the own methods -/
def rOwnLen (C : Addr) (sp : Sp) (E : XK) : List V → Hp → VK → Prop := fun xs H Q => ∃ a dx fs, xs = [V.ref a] ∧ H a = some (.ins C dx fs) ∧ sp [.ref a] H (fun z H' => ∃ i : Int, z = .int i ∧ 0 ≤ i ∧ i < 2 ^ 63 ∧ Q (.int i) H') E
theorem call_lenO (hs : OwnM X.K C "__len__" g) (F : FnOk X.prog X.w X.K X.mg X.base CX n g fd ps sp) (hb : Binds X.K fd ps []) (hr : Room (n + 1) X.A) (hx : Passes CX X E) : CallR X (.builtin "len") (rOwnLen C sp E) := by
  intro pins s σ H xs us Q I r h
  obtain ⟨a, dx, fs, rfl, ha, q⟩ := h
  obtain ⟨u, rfl, ru⟩ := r.one
  cases (show u = Value.ref a from ru)
  obtain ⟨od, J⟩ := inst_at I ha
  obtain ⟨m, hF⟩ := I.fr
  refine PySem.W.len_K hF I.ok.mod.kin J hs.hs hs.hf ?_
  refine wpAny_mono (run_below (us := [.ref a]) (vs := [.ref a]) F hb hr.in1 I.env0.in1 hx I (.cons rfl .nil) q) (fun w s' z => ?_) fun _ _ x => x
  obtain ⟨z', H', I', rz, i, e, h1, h2, qz⟩ := z
  subst e
  obtain ⟨t, e⟩ := (show ∃ t, w = Value.int i t from rz)
  cases e
  exact ⟨⟨h1, h2⟩, .int i, H', I'.tok _, ⟨_, rfl⟩, qz⟩
def rOwnRepr (C : Addr) (sp : Sp) (E : XK) : List V → Hp → VK → Prop := fun xs H Q => ∃ a dx fs, xs = [V.ref a] ∧ H a = some (.ins C dx fs) ∧ sp [.ref a] H (fun z H' => ∃ y : Str, z = .str y ∧ Q (.str y) H') E
theorem call_reprO (hs : OwnM X.K C "__repr__" g) (F : FnOk X.prog X.w X.K X.mg X.base CX n g fd ps sp) (hb : Binds X.K fd ps []) (hr : Room (n + 1) X.A) (hx : Passes CX X E) : CallR X (.builtin "repr") (rOwnRepr C sp E) := by
  intro pins s σ H xs us Q I r h
  obtain ⟨a, dx, fs, rfl, ha, q⟩ := h
  obtain ⟨u, rfl, ru⟩ := r.one
  cases (show u = Value.ref a from ru)
  obtain ⟨od, J⟩ := inst_at I ha
  obtain ⟨m, hF⟩ := I.fr
  refine PySem.W.repr_K hr.in1.units0 hF I.ok.mod.kin J hs.hs hs.hf ?_
  refine wpAny_mono (run_below (us := [.ref a]) (vs := [.ref a]) F hb hr.in1 I.env0.in1 hx I (.cons rfl .nil) q) (fun w s' z => ?_) fun _ _ x => x
  obtain ⟨z', H', I', rz, y, e, qz⟩ := z
  subst e
  obtain ⟨t, e⟩ := (show ∃ t, w = Value.str y t from rz)
  cases e
  exact ⟨.str y, H', I', ⟨_, rfl⟩, qz⟩
/-- x in [..]: x an instance with its own __eq__; the items instances of that class, or of other kinds -/
inductive Foreign (K : PySem.W.Frag) (H : Hp) : V → Prop
  | non : Foreign K H .non
  | int (i : Int) : Foreign K H (.int i)
  | str (z : Str) : Foreign K H (.str z)
  | lst {b : Addr} {xs : List V} (h : SqL K H b xs) : Foreign K H (.ref b)
  | tup {b : Addr} {xs : List V} (h : SqT K H b xs) : Foreign K H (.ref b)
def EqGo (K : PySem.W.Frag) (C : Addr) (sp : Sp) (E : XK) (a : Addr) (v : V) (H : Hp) (P : Bool → Hp → Prop) : Prop :=
  (v = .ref a ∧ P true H) ∨ (∃ b dx fs, v = .ref b ∧ b ≠ a ∧ H b = some (.ins C dx fs) ∧ sp [v, .ref a] H (fun z H' => ∃ k, z = .bl k ∧ P k H') E) ∨ (Foreign K H v ∧ sp [.ref a, v] H (fun z H' => ∃ k, z = .bl k ∧ P k H') E)
def InGo (K : PySem.W.Frag) (C : Addr) (sp : Sp) (E : XK) (a l : Addr) (xs : List V) (Qt : Hp → Prop) (Qf : Hp → Prop) : List V → Hp → Prop
  | [], H => Qf H
  | v :: r, H => EqGo K C sp E a v H fun b H' => (∃ dx fs, H' a = some (.ins C dx fs)) ∧ H' l = some (.lst xs) ∧ (b = true → Qt H') ∧ (b = false → InGo K C sp E a l xs Qt Qf r H')
def rInO (K : PySem.W.Frag) (C : Addr) (sp : Sp) (E : XK) (neg : Bool) : R2 := fun x y H Q => ∃ a l xs, x = .ref a ∧ y = .ref l ∧ (∃ dx fs, H a = some (.ins C dx fs)) ∧ H l = some (.lst xs) ∧ InGo K C sp E a l xs (fun H' => Q (.bl (!neg)) H') (fun H' => Q (.bl neg) H') xs H
/-- what of the built-in types the class is not -/
structure OwnC (K : PySem.W.Frag) (C : Addr) : Prop where
  l : PySem.W.mroIn K C (.type "list") = some false
  t : PySem.W.mroIn K C (.type "tuple") = some false
  i : PySem.W.mroIn K C (.type "int") = some false
  s : PySem.W.mroIn K C (.type "str") = some false
  n : PySem.W.mroIn K C (.type "NoneType") = some false
  self : PySem.W.notFirst K C (.ref C) = true
theorem eq_turn {v : V} {u : Value} {P : Bool → Hp → Prop} (hc : OwnC X.K C) (hs : OwnM X.K C "__eq__" g) (F : FnOk X.prog X.w X.K X.mg X.base CX n g fd ps sp) (hb : Binds X.K fd ps []) (hr : Room (n + 1) X.A) (hx : Passes CX X E) {fs : List (Str × V)} (I : Inv X pins σ H s) (ha : H a = some (.ins C dx fs)) (ru : RelV v u)
    (h : EqGo X.K C sp E a v H P) : wpAny (model X.prog X.w) X.A.in1 (eqBool u (.ref a)) (fun r s' => ∃ H', Inv X pins σ H' s' ∧ P r H') X.xe s := by
  obtain ⟨od, J⟩ := inst_at I ha
  have hr1 : Room n X.A.in1 := hr.in1
  have hu := hr1.units0
  unfold eqBool
  refine wpAny_holding ?_
  refine wpAny_ite_split (fun hab => ?_) (fun hab => ?_)
  · -- the very same
    have e : u = .ref a := eq_of_beq hab
    subst e
    refine wpAny_bind (wpAny_rule (wpAny_pure ?_))
    rcases h with ⟨_, p⟩ | ⟨b, dx', fs', rfl, hne, _, _⟩ | ⟨hf, _⟩
    · exact ⟨H, I, p⟩
    · exact absurd (Value.ref.inj (show Value.ref a = Value.ref b from ru)).symm hne
    · exfalso
      cases hf with
      | non => cases (show Value.ref a = Value.none from ru)
      | int i => obtain ⟨t, q⟩ := (show ∃ t, Value.ref a = Value.int i t from ru); cases q
      | str i => obtain ⟨t, q⟩ := (show ∃ t, Value.ref a = Value.str i t from ru); cases q
      | @lst b xs h =>
        cases (show Value.ref a = Value.ref b from ru)
        obtain ⟨its, _, p, _⟩ := I.list h
        obtain ⟨o, n1, ho, hcl, _⟩ := p
        rw [J.at_] at ho; cases ho; cases hcl
      | @tup b xs h =>
        cases (show Value.ref a = Value.ref b from ru)
        obtain ⟨its, _, p, _⟩ := I.tuple h
        obtain ⟨o, ho, hcl, _⟩ := p
        rw [J.at_] at ho; cases ho; cases hcl
  · have nf : ∀ x t y t', ¬ (u = Value.float x t ∧ Value.ref a = Value.float y t') := fun _ _ _ _ z => nomatch z.2
    have go : ∀ (Q2 : Value → Shared → Prop), (∀ k s', (∃ H', Inv X pins σ H' s' ∧ P k H') → Q2 (.bool k) s') → wpAny (model X.prog X.w) X.A.in1 (richCompare .Eq u (.ref a)) Q2 X.xe s := by
      intro Q2 hQ2
      have fin : ∀ w s', EP X pins σ (fun z H' => ∃ k, z = .bl k ∧ P k H') w s' → PySem.W.CmpBack Q2 w s' := fun w s' z => by
        obtain ⟨z', H', I', rz, k, e, qz⟩ := z
        subst e
        cases (show w = Value.bool k from rz)
        exact hQ2 k s' ⟨H', I', qz⟩
      rcases h with ⟨e, p⟩ | ⟨b, dx', fs', rfl, hne, hb', q⟩ | ⟨hf, q⟩
      · subst e
        cases (show u = Value.ref a from ru)
        exact absurd (beq_self_eq_true _) hab
      · cases (show u = Value.ref b from ru)
        obtain ⟨od', J'⟩ := inst_at I hb'
        obtain ⟨m, hF⟩ := I.fr
        refine PySem.W.cmp_K (op := .Eq) (tb := .ref C) hu hF I.ok.mod.kin J' J.type hc.self hs.hs hs.hf ?_
        exact wpAny_mono (run_below (us := [.ref b, .ref a]) (vs := [.ref b, .ref a]) F hb hr1 I.env0.in1 hx I (.cons rfl (.cons rfl .nil)) q) (fun w s' z => fin w s' z) fun _ _ x => x
      · have run := fun (hv : Vals [.ref a, v] [.ref a, u]) => wpAny_mono (run_below (A := X.A.in1) (us := [.ref a, u]) (vs := [.ref a, v]) F hb hr1 I.env0.in1 hx I hv q) (fun w s' z => fin w s' z) fun _ _ x => x
        have hv : Vals [.ref a, v] [.ref a, u] := .cons rfl (.cons ru .nil)
        cases hf with
        | non =>
          cases (show u = Value.none from ru)
          exact rc_right (T := "NoneType") hu I.kIn J (typeIs_none _) PySem.F.slot_NoneType_eq hc.n hs.hs hs.hf (fun Q' hq => call_gives PySem.F.slot_NoneType_eq (typeIs_none _) PySem.F.entry_NoneType_eq (PySem.F.args_NoneType_eq_2 _ _) (SeqAt.NoneType___eq___none_ref_0 a) hq) (run hv)
        | int i =>
          obtain ⟨t, rfl⟩ := (show ∃ t, u = Value.int i t from ru)
          exact rc_right (T := "int") hu I.kIn J (typeIs_int _ _ _) PySem.F.slot_int_eq hc.i hs.hs hs.hf (fun Q' hq => call_meets PySem.F.slot_int_eq (typeIs_int _ _ _) PySem.F.entry_int_eq (PySem.F.args_int_eq_2 _ _) (int_declines i t a C dx) ⟨J.at_, fun M => inst_sub I.kIn J hc.i, hq⟩) (run hv)
        | str i =>
          obtain ⟨t, rfl⟩ := (show ∃ t, u = Value.str i t from ru)
          exact rc_right (T := "str") hu I.kIn J (typeIs_str _ _ _) PySem.F.slot_str_eq hc.s hs.hs hs.hf (fun Q' hq => call_meets PySem.F.slot_str_eq (typeIs_str _ _ _) PySem.F.entry_str_eq (PySem.F.args_str_eq_2 _ _) (str_declines i t a C dx) ⟨J.at_, fun M => inst_sub I.kIn J hc.s, hq⟩) (run hv)
        | @lst b xs h =>
          cases (show u = Value.ref b from ru)
          obtain ⟨its, _, ⟨⟨cls, dd, data, sls⟩, n1, ho, hcl, hdd, hdt⟩, _⟩ := I.list h
          simp only at hcl hdt
          subst hcl; subst hdt
          exact rc_right (T := "list") hu I.kIn J ⟨_, ho, rfl⟩ PySem.F.slot_list_eq hc.l hs.hs hs.hf (fun Q' hq => call_meets PySem.F.slot_list_eq ⟨_, ho, rfl⟩ PySem.F.entry_list_eq (PySem.F.args_list_eq_2 _ _) (list_declines b a _ n1 dd sls) ⟨ho, fun M => inst_sub I.kIn J hc.l, hq⟩) (run hv)
        | @tup b xs h =>
          cases (show u = Value.ref b from ru)
          obtain ⟨its, _, ⟨⟨cls, dd, data, sls⟩, ho, hcl, n1, hdt⟩, _⟩ := I.tuple h
          simp only at hcl hdt
          subst hcl; subst hdt
          exact rc_right (T := "tuple") hu I.kIn J ⟨_, ho, rfl⟩ PySem.F.slot_tuple_eq hc.t hs.hs hs.hf (fun Q' hq => call_meets PySem.F.slot_tuple_eq ⟨_, ho, rfl⟩ PySem.F.entry_tuple_eq (PySem.F.args_tuple_eq_2 _ _) (tuple_declines b a _ n1 dd sls) ⟨ho, fun M => inst_sub I.kIn J hc.t, hq⟩) (run hv)
    have tail : wpAny (model X.prog X.w) X.A.in1 (do truthOfDropped (← richCompare .Eq u (.ref a))) (fun r s' => ∃ H', Inv X pins σ H' s' ∧ P r H') X.xe s :=
      wpAny_bind (go _ fun k s' q => wpAny_truthy_bool q)
    cases u <;> exact tail
end
end Ow

namespace Ow
open PySem PySem.Spec PyProof.Rows L2
section
variable {X : Cx} {CX : CXT} {pins : List (Addr × Obj)} {σ : L2.St} {H : Hp} {s : Shared} {a C dx g : Addr} {n : Nat} {sp : Sp} {E : XK} {fd : FuncData} {ps : List Str}
theorem lst_at {l : Addr} {xs : List V} (I : Inv X pins σ H s) (h : H l = some (.lst xs)) : ∃ its n, Vals xs its ∧ s.heap.get? l = some { cls := .type "list", data := .seq its.toArray n } := by
  obtain ⟨_, its, n, r, e⟩ := (show ObjOk X.prog X.w H s.heap l (.lst xs) from I.hok l _ h)
  exact ⟨its, n, r, e⟩
theorem in_turns {l : Addr} {xs : List V} {Qt Qf : Hp → Prop} (hc : OwnC X.K C) (hs : OwnM X.K C "__eq__" g) (F : FnOk X.prog X.w X.K X.mg X.base CX n g fd ps sp) (hb : Binds X.K fd ps []) (hr : Room (n + 1) X.A) (hx : Passes CX X E) :
    ∀ i s, (∃ H', Inv X pins σ H' s ∧ (∃ dx fs, H' a = some (.ins C dx fs)) ∧ H' l = some (.lst xs) ∧ InGo X.K C sp E a l xs Qt Qf (xs.drop i) H') →
      ∃ (items : Array Value) (m : Nat), s.heap.get? l = some { cls := .type "list", data := .seq items m } ∧ items.size = xs.length ∧
        ∀ h1 : i < items.size, wpAny (model X.prog X.w) X.A.in1 (eqBool items[i] (.ref a)) (fun r s' => (r = true → ∃ H', Inv X pins σ H' s' ∧ Qt H') ∧
          (r = false → ∃ H', Inv X pins σ H' s' ∧ (∃ dx fs, H' a = some (.ins C dx fs)) ∧ H' l = some (.lst xs) ∧ InGo X.K C sp E a l xs Qt Qf (xs.drop (i + 1)) H')) X.xe s := by
  rintro i s ⟨H', I, ⟨dx, fs, ha⟩, hl, hg⟩
  obtain ⟨its, m, rv, e⟩ := lst_at I hl
  refine ⟨its.toArray, m, e, by simp [rv.length], fun h1 => ?_⟩
  have hi : i < xs.length := by have := rv.length; simp at h1; omega
  rw [List.drop_eq_getElem_cons hi] at hg
  obtain ⟨u, hu, ru⟩ := rv.get (i := i) (x := xs[i]) (List.getElem?_eq_getElem hi)
  have hit : its.toArray[i] = u := by
    have : its[i]? = some u := hu
    obtain ⟨hh, ee⟩ := List.getElem?_eq_some_iff.mp this
    simpa using ee
  rw [hit]
  refine wpAny_mono (eq_turn hc hs F hb hr hx I ha ru hg) (fun r s' q => ?_) fun _ _ z => z
  obtain ⟨H2, I2, h2, h3, h4, h5⟩ := q
  exact ⟨fun er => ⟨H2, I2, h4 er⟩, fun er => ⟨H2, I2, h2, h3, h5 er⟩⟩
theorem op_inO (hc : OwnC X.K C) (hs : OwnM X.K C "__eq__" g) (F : FnOk X.prog X.w X.K X.mg X.base CX n g fd ps sp) (hb : Binds X.K fd ps []) (hr : Room (n + 1) X.A) (hx : Passes CX X E) : OpR X (compareOp .In) (rInO X.K C sp E false) := by
  intro pins s σ H x y v u Q I rx ry h
  obtain ⟨a, l, xs, rfl, rfl, ha, hl, hg⟩ := h
  cases (show v = Value.ref a from rx)
  cases (show u = Value.ref l from ry)
  refine op_in_go (N := xs.length) (fun i s => ∃ H', Inv X pins σ H' s ∧ (∃ dx fs, H' a = some (.ins C dx fs)) ∧ H' l = some (.lst xs) ∧ InGo X.K C sp E a l xs (fun H' => Q (.bl true) H') (fun H' => Q (.bl false) H') (xs.drop i) H')
    (fun i s hi => ?_) (fun s hi => ?_) ⟨H, I, ha, hl, by rw [List.drop_zero]; exact hg⟩
  · obtain ⟨items, m, h1, h2, h3⟩ := in_turns hc hs F hb hr hx i s hi
    exact ⟨items, m, h1, h2, fun hlt => wpAny_mono (h3 hlt) (fun r s' q => ⟨fun e => let ⟨H', I', q'⟩ := q.1 e; ⟨.bl true, H', I', rfl, q'⟩, q.2⟩) fun _ _ z => z⟩
  · obtain ⟨H', I', _, _, hg⟩ := hi
    rw [List.drop_length] at hg
    exact ⟨.bl false, H', I', rfl, hg⟩
theorem op_notInO (hc : OwnC X.K C) (hs : OwnM X.K C "__eq__" g) (F : FnOk X.prog X.w X.K X.mg X.base CX n g fd ps sp) (hb : Binds X.K fd ps []) (hr : Room (n + 1) X.A) (hx : Passes CX X E) : OpR X (compareOp .NotIn) (rInO X.K C sp E true) := by
  intro pins s σ H x y v u Q I rx ry h
  obtain ⟨a, l, xs, rfl, rfl, ha, hl, hg⟩ := h
  cases (show v = Value.ref a from rx)
  cases (show u = Value.ref l from ry)
  refine op_notIn_go (N := xs.length) (fun i s => ∃ H', Inv X pins σ H' s ∧ (∃ dx fs, H' a = some (.ins C dx fs)) ∧ H' l = some (.lst xs) ∧ InGo X.K C sp E a l xs (fun H' => Q (.bl false) H') (fun H' => Q (.bl true) H') (xs.drop i) H')
    (fun i s hi => ?_) (fun s hi => ?_) ⟨H, I, ha, hl, by rw [List.drop_zero]; exact hg⟩
  · obtain ⟨items, m, h1, h2, h3⟩ := in_turns hc hs F hb hr hx i s hi
    exact ⟨items, m, h1, h2, fun hlt => wpAny_mono (h3 hlt) (fun r s' q => ⟨fun e => let ⟨H', I', q'⟩ := q.1 e; ⟨.bl false, H', I', rfl, q'⟩, q.2⟩) fun _ _ z => z⟩
  · obtain ⟨H', I', _, _, hg⟩ := hi
    rw [List.drop_length] at hg
    exact ⟨.bl true, H', I', rfl, hg⟩
end
end Ow
namespace Al
open PySem PyProof.Rows L2 Ow
section
variable {B : Base} {K : PySem.W.Frag} {σ : AEnv} {M : List MO} {x y : AV} {Φ : AV → List MO → Prop} {C : Addr} {asp : ASp} {E : XK} {Ψ : Exc → List MO → Prop}
theorem ras_nil {W : Hp} {μ : List Addr} : RAs K W μ [] [] := rfl
/-- x == y by the own __eq__: y any data -/
theorem ar_eqO {ns : List Str} {l : List D} {d : D} (mono : Mono asp) (qe : EFits B K Ψ E) (hk : TyK K d) (hn : PySem.W.notFirst K C (tyD d) = true) (h : Sent asp [.d (.ins C ns l), .d d] M Φ Ψ) : AR B K (rOwnE K C (conc K asp) E) (.d (.ins C ns l)) (.d d) M Φ := fun W μ H u w o s hu hw Q q => by
  have hu' := hu
  obtain ⟨a, dx, vs, rfl, h1, _⟩ := hu'
  exact ⟨a, dx, _, tyD d, rfl, s.sub _ _ h1, tyx_of s.sub hk hw, hn, sent_run mono o s (ras_cons hu (ras_cons hw ras_nil)) h (fun z M' W' μ' H' v p f r => q _ _ _ _ _ _ p f r) qe⟩
theorem ar_neO {ns : List Str} {l : List D} {d : D} (mono : Mono asp) (qe : EFits B K Ψ E) (hk : TyK K d) (hn : PySem.W.notFirst K C (tyD d) = true) (h : Sent asp [.d (.ins C ns l), .d d] M (fun z M' => ∃ b, z = .d (.bl b) ∧ Φ (.d (.bl (!b))) M') Ψ) : AR B K (rOwnN K C (conc K asp) E) (.d (.ins C ns l)) (.d d) M Φ := fun W μ H u w o s hu hw Q q => by
  have hu' := hu
  obtain ⟨a, dx, vs, rfl, h1, _⟩ := hu'
  refine ⟨a, dx, _, tyD d, rfl, s.sub _ _ h1, tyx_of s.sub hk hw, hn, sent_run mono o s (ras_cons hu (ras_cons hw ras_nil)) h (fun z M' W' μ' H' v p f r => ?_) qe⟩
  obtain ⟨b, rfl, p⟩ := p
  cases r
  exact ⟨b, rfl, q _ _ _ _ _ _ p f rfl⟩
theorem ac_lenO {ns : List Str} {l : List D} (mono : Mono asp) (qe : EFits B K Ψ E) (h : Sent asp [.d (.ins C ns l)] M (fun z M' => ∃ i : Int, z = .d (.int i) ∧ 0 ≤ i ∧ i < 2 ^ 63 ∧ Φ (.d (.int i)) M') Ψ) : AC B K (rOwnLen C (conc K asp) E) [.d (.ins C ns l)] M Φ := fun W μ H us o s r Q q => by
  obtain ⟨v, rfl, hu⟩ := ra_one r
  have hu' := hu
  obtain ⟨a, dx, vs, rfl, h1, _⟩ := hu'
  refine ⟨a, dx, _, rfl, s.sub _ _ h1, sent_run mono o s (ras_cons hu ras_nil) h (fun z M' W' μ' H' v p f r => ?_) qe⟩
  obtain ⟨i, rfl, h0, h2, p⟩ := p
  cases r
  exact ⟨i, rfl, h0, h2, q _ _ _ _ _ _ p f rfl⟩
theorem ac_reprO {ns : List Str} {l : List D} (mono : Mono asp) (qe : EFits B K Ψ E) (h : Sent asp [.d (.ins C ns l)] M (fun z M' => ∃ y : Str, z = .d (.str y) ∧ Φ (.d (.str y)) M') Ψ) : AC B K (rOwnRepr C (conc K asp) E) [.d (.ins C ns l)] M Φ := fun W μ H us o s r Q q => by
  obtain ⟨v, rfl, hu⟩ := ra_one r
  have hu' := hu
  obtain ⟨a, dx, vs, rfl, h1, _⟩ := hu'
  refine ⟨a, dx, _, rfl, s.sub _ _ h1, sent_run mono o s (ras_cons hu ras_nil) h (fun z M' W' μ' H' v p f r => ?_) qe⟩
  obtain ⟨y, rfl, p⟩ := p
  cases r
  exact ⟨y, rfl, q _ _ _ _ _ _ p f rfl⟩
/-- x in [..]: an item of the class is asked first, of other kinds x is asked; the very same object is in -/
def D.isIns : D → Bool | .ins _ _ _ => true | _ => false
def D.forD : D → Bool | .non => true | .int _ => true | .str _ => true | .lst _ => true | .scr _ => true | .tup _ => true | _ => false
def InD (eqf : D → D → Bool) (x : D) : List D → (Bool → Prop) → Prop
  | [], P => P false
  | d :: r, P => if d.isIns = true then P true ∧ ((eqf d x = true → P true) ∧ (eqf d x = false → InD eqf x r P)) else (eqf x d = true → P true) ∧ (eqf x d = false → InD eqf x r P)
theorem foreign_of {W H : Hp} {d : D} {v : V} (e : Same W H) (h : RD K W d v) (f : d.forD = true) : Foreign K H v := by
  cases d with
  | non => cases h; exact .non
  | bl b => cases f
  | int i => cases h; exact .int _
  | str i => cases h; exact .str _
  | ty n => cases f
  | adr a => cases f
  | tup l => obtain ⟨a, vs, rfl, h1, _⟩ := h; exact .tup (sqt_mono e h1)
  | lst l => obtain ⟨a, vs, rfl, h1, _⟩ := h; exact .lst (SqL.of (e _ _ h1))
  | scr l => obtain ⟨a, vs, rfl, h1, _⟩ := h; exact .lst (e.seq h1)
  | ins C ns l => cases f
theorem in_run {eqf : D → D → Bool} {ns : List Str} {l : List D} {a la : Addr} {xs : List V} {P : Bool → Prop} {Qt Qf : Hp → Prop} {W0 : Hp} {μ0 : List Addr} (mono : Mono asp) (qe : EFits B K Ψ E)
    (qt : ∀ W μ H, P true → Go B K W0 μ0 W μ M H → Qt H) (qf : ∀ W μ H, P false → Go B K W0 μ0 W μ M H → Qf H) (hx : ∃ dx vs, W0 a = some (.ins C dx (ns.zip vs)) ∧ ns.length = l.length ∧ RDs K W0 l vs) (hl : W0 la = some (.lst xs)) :
    ∀ (ds : List D) (vs : List V) (W : Hp) (μ : List Addr) (H : Hp), Go B K W0 μ0 W μ M H → RDs K W ds vs →
      (∀ d ∈ ds, (d.isIns = true ∧ (∃ ns l, d = .ins C ns l) ∧ ∀ Φ' : AV → List MO → Prop, Φ' (.d (.bl (eqf d (.ins C ns l)))) M → Sent asp [.d d, .d (.ins C ns l)] M Φ' Ψ) ∨ (d.isIns = false ∧ d.forD = true ∧ ∀ Φ' : AV → List MO → Prop, Φ' (.d (.bl (eqf (.ins C ns l) d))) M → Sent asp [.d (.ins C ns l), .d d] M Φ' Ψ)) →
      InD eqf (.ins C ns l) ds P → InGo K C (conc K asp) E a la xs Qt Qf vs H
  | [], vs, W, μ, H, g, r, _, h => by
    cases (show vs = [] from r)
    exact qf _ _ _ h g
  | d :: ds, vs, W, μ, H, g, r, hd, h => by
    obtain ⟨v, vs', rfl, rv, rr⟩ := r
    obtain ⟨dx, ws, hxa, hn, hrd⟩ := hx
    have rx : RD K W (.ins C ns l) (.ref a) := ⟨a, dx, ws, rfl, g.wext _ _ hxa, hn, RDs.mono g.wext hrd⟩
    have go : ∀ b, (b = true → P true) → (b = false → InD eqf (.ins C ns l) ds P) → ∀ W' μ' H', Go B K W μ W' μ' M H' →
        (∃ dx fs, H' a = some (.ins C dx fs)) ∧ H' la = some (.lst xs) ∧ (b = true → Qt H') ∧ (b = false → InGo K C (conc K asp) E a la xs Qt Qf vs' H') := by
      intro b h1 h2 W' μ' H' g'
      have gg := g.trans g'
      refine ⟨⟨dx, _, gg.sim.sub _ _ (gg.wext _ _ hxa)⟩, gg.sim.sub _ _ (gg.wext _ _ hl), fun e => qt _ _ _ (h1 e) gg, fun e => ?_⟩
      exact in_run mono qe qt qf ⟨dx, ws, hxa, hn, hrd⟩ hl ds vs' W' μ' H' gg (RDs.mono g'.wext rr) (fun d hm => hd d (List.mem_cons_of_mem _ hm)) (h2 e)
    rcases hd d List.mem_cons_self with ⟨hi, ⟨ns', l', e⟩, hs⟩ | ⟨hi, hf, hs⟩
    · unfold InD at h
      rw [if_pos hi] at h
      obtain ⟨h0, h1, h2⟩ := h
      have rv' := rv
      rw [e] at rv'
      obtain ⟨b, dx', ws', ev, hb, _, _⟩ := rv'
      subst ev
      by_cases hba : b = a
      · subst hba
        exact .inl ⟨rfl, go true (fun _ => h0) (fun z => nomatch z) W μ H (.refl g.ok g.sim)⟩
      · refine .inr (.inl ⟨b, dx', _, rfl, hba, g.sim.sub _ _ hb, ?_⟩)
        exact sent_run mono g.ok g.sim (ras_cons (x := .d d) rv (ras_cons (x := .d (.ins C ns l)) rx ras_nil)) (hs (fun z M' => z = .d (.bl (eqf d (.ins C ns l))) ∧ M' = M) ⟨rfl, rfl⟩)
          (fun z M' W' μ' H' v p f r => by obtain ⟨e1, e2⟩ := p; subst e1; subst e2; cases r; exact ⟨_, rfl, go _ h1 h2 W' μ' H' f⟩) qe
    · unfold InD at h
      rw [if_neg (by rw [hi]; exact Bool.false_ne_true)] at h
      refine .inr (.inr ⟨foreign_of g.sim.sub rv hf, ?_⟩)
      exact sent_run mono g.ok g.sim (ras_cons (x := .d (.ins C ns l)) rx (ras_cons (x := .d d) rv ras_nil)) (hs (fun z M' => z = .d (.bl (eqf (.ins C ns l) d)) ∧ M' = M) ⟨rfl, rfl⟩)
        (fun z M' W' μ' H' v p f r => by obtain ⟨e1, e2⟩ := p; subst e1; subst e2; cases r; exact ⟨_, rfl, go _ h.1 h.2 W' μ' H' f⟩) qe
theorem ar_inO {eqf : D → D → Bool} {ns : List Str} {l : List D} {ds : List D} {neg : Bool} (mono : Mono asp) (qe : EFits B K Ψ E)
    (hd : ∀ d ∈ ds, (d.isIns = true ∧ (∃ ns l, d = .ins C ns l) ∧ ∀ Φ' : AV → List MO → Prop, Φ' (.d (.bl (eqf d (.ins C ns l)))) M → Sent asp [.d d, .d (.ins C ns l)] M Φ' Ψ) ∨ (d.isIns = false ∧ d.forD = true ∧ ∀ Φ' : AV → List MO → Prop, Φ' (.d (.bl (eqf (.ins C ns l) d))) M → Sent asp [.d (.ins C ns l), .d d] M Φ' Ψ))
    (h : InD eqf (.ins C ns l) ds (fun b => Φ (.d (.bl (if neg = true then !b else b))) M)) : AR B K (rInO K C (conc K asp) E neg) (.d (.ins C ns l)) (.d (.lst ds)) M Φ := fun W μ H u w o s hu hw Q q => by
  obtain ⟨a, dx, vs, rfl, h1, h2, h3⟩ := hu
  obtain ⟨la, xs, rfl, h4, h5⟩ := hw
  refine ⟨a, la, xs, rfl, rfl, ⟨dx, _, s.sub _ _ h1⟩, s.sub _ _ h4, in_run (B := B) (P := fun b => Φ (.d (.bl (if neg = true then !b else b))) M) mono qe (fun W' μ' H' p g => ?_) (fun W' μ' H' p g => ?_) ⟨dx, vs, h1, h2, h3⟩ h4 ds xs W μ H (.refl o s) h5 hd h⟩
  · cases neg <;> exact q _ _ _ _ _ _ p g rfl
  · cases neg <;> exact q _ _ _ _ _ _ p g rfl
end
end Al

namespace Al
open PySem PyProof.Rows L2
section
variable {B : Base} {K : PySem.W.Frag} {σ : AEnv} {M : List MO} {x y : AV} {Φ : AV → List MO → Prop} {C : Addr} {asp : ASp} {E : XK} {Ψ : Exc → List MO → Prop}
theorem map_ren {n : Nat} {ks : List Nat} (ys : List D) : (ys.map AV.d).map (renV n ks) = ys.map AV.d := by
  rw [List.map_map]; rfl
theorem all_isD (ys : List D) : (ys.map AV.d).all AV.isD = true := by
  rw [List.all_map]; exact List.all_eq_true.mpr fun _ _ => rfl
theorem all_below (ys : List D) (n : Nat) : (ys.map AV.d).all (AV.below n) = true := by
  rw [List.all_map]; exact List.all_eq_true.mpr fun _ _ => rfl
/-- a call with data alone -/
theorem sent0 {ys : List D} (mono : Mono asp) (h : asp (ys.map AV.d) [] (fun x M' => M' = [] ∧ ∃ d, x = .d d ∧ Φ (.d d) M) (fun x M' => M' = [] ∧ Ψ x M)) : Sent asp (ys.map AV.d) M Φ Ψ := by
  refine ⟨[], ys.map AV.d, .nil, rfl, rfl, (map_ren ys).symm, all_below ys _, mono _ _ _ _ _ _ (fun x M' ⟨e, d, ex, p⟩ => ?_) (fun x M' ⟨e, p⟩ => ?_) h⟩
  · subst e; subst ex
    exact ⟨[], [], rfl, rfl, by show Φ (.d d) (putK M [] [] ++ []); rw [List.append_nil]; unfold putK; exact p⟩
  · subst e
    exact ⟨[], [], rfl, rfl, by show Ψ x (putK M [] [] ++ []); rw [List.append_nil]; unfold putK; exact p⟩
/-- a call with one mutable list, the k-th, which the callee may change -/
theorem sent1 {k : Nat} {l : List D} {xs xs' : List AV} (mono : Mono asp) (hk : M[k]? = some (.lst l)) (hx : xs = xs'.map (renV M.length [k])) (hb : xs'.all (AV.below 1) = true)
    (h : asp xs' [.lst l] (fun x M' => ∃ l' d, M' = [.lst l'] ∧ x = .d d ∧ Φ (.d d) (M.set k (.lst l'))) (fun x M' => ∃ l', M' = [.lst l'] ∧ Ψ x (M.set k (.lst l')))) : Sent asp xs M Φ Ψ := by
  have hl := (List.getElem?_eq_some_iff.mp hk).1
  have hg : M.getD k (.lst []) = .lst l := by rw [List.getD, hk]; rfl
  have e : subK M [k] = [.lst l] := by show [M.getD k (.lst [])] = _; rw [hg]
  refine ⟨[k], xs', by simp, by simpa using hl, by show ((M.getD k (.lst [])).isD && true) = true; rw [hg]; rfl, hx, hb, ?_⟩
  rw [e]
  refine mono _ _ _ _ _ _ (fun x M' z => ?_) (fun x M' z => ?_) h
  · obtain ⟨l', d, e, ex, p⟩ := z
    subst e; subst ex
    exact ⟨[.lst l'], [], rfl, rfl, by show Φ (.d d) (putK M [k] [.lst l'] ++ []); rw [List.append_nil]; unfold putK; unfold putK; exact p⟩
  · obtain ⟨l', e, p⟩ := z
    subst e
    exact ⟨[.lst l'], [], rfl, rfl, by show Ψ x (putK M [k] [.lst l'] ++ []); rw [List.append_nil]; unfold putK; unfold putK; exact p⟩
/-- a call with data alone that hands back a new mutable list -/
theorem sentN {ys : List D} (mono : Mono asp) (h : asp (ys.map AV.d) [] (fun x M' => ∃ l, M' = [.lst l] ∧ x = .m 0 ∧ Φ (.m M.length) (M ++ [.lst l])) (fun x M' => M' = [] ∧ Ψ x M)) : Sent asp (ys.map AV.d) M Φ Ψ := by
  refine ⟨[], ys.map AV.d, .nil, rfl, rfl, (map_ren ys).symm, all_below ys _, mono _ _ _ _ _ _ (fun x M' ⟨l, e, ex, p⟩ => ?_) (fun x M' ⟨e, p⟩ => ?_) h⟩
  · subst e; subst ex
    exact ⟨[], [.lst l], rfl, rfl, by show Φ (.m (M.length + 0)) (putK M [] [] ++ [.lst l]); unfold putK; exact p⟩
  · subst e
    exact ⟨[], [], rfl, rfl, by show Ψ x (putK M [] [] ++ []); rw [List.append_nil]; unfold putK; exact p⟩
/-- a new instance made of data -/
theorem sentI {ys : List D} (mono : Mono asp) (hM : ∀ o ∈ M, o.below M.length = true)
    (h : asp (.m 0 :: ys.map AV.d) [.ins C [] []] (fun x M' => x = .d .non ∧ ∃ ns l, M' = [.ins C ns (l.map AV.d)] ∧ Φ (.d (.ins C ns l)) M) (fun x M' => ∃ o, M' = [o] ∧ Ψ x (M ++ [renO (M.length + 1) [M.length] o]))) :
    Sent asp (.m M.length :: ys.map AV.d) (M ++ [.ins C [] []]) (MadeOk C M.length Φ) Ψ := by
  have hp : ∀ o : MO, putK (M ++ [.ins C [] []]) [M.length] [o] = M ++ [o] := fun o => by
    unfold putK; unfold putK
    rw [List.set_append_right _ _ (Nat.le_refl _), Nat.sub_self]; rfl
  have hg : (M ++ [MO.ins C [] []]).getD M.length (.lst []) = .ins C [] [] := by
    rw [List.getD, List.getElem?_append_right (Nat.le_refl _), Nat.sub_self]; rfl
  have e : subK (M ++ [MO.ins C [] []]) [M.length] = [.ins C [] []] := by show [(M ++ [MO.ins C [] []]).getD M.length (.lst [])] = _; rw [hg]
  refine ⟨[M.length], .m 0 :: ys.map AV.d, by simp, by simp, by show ((((M ++ [MO.ins C [] []]).getD M.length (.lst [])).isD) && true) = true; rw [hg]; rfl, by rw [List.map_cons, map_ren]; rfl, by rw [List.all_cons, all_below]; rfl, ?_⟩
  rw [e]
  refine mono _ _ _ _ _ _ (fun x M' z => ?_) (fun x M' z => ?_) h
  · obtain ⟨ex, ns, l, e, p⟩ := z
    subst e; subst ex
    refine ⟨[.ins C ns (l.map AV.d)], [], rfl, rfl, rfl, ns, l, M, ?_, rfl, hM, p⟩
    show putK (M ++ [.ins C [] []]) [M.length] [renO _ _ (.ins C ns (l.map AV.d))] ++ [] = _
    rw [List.append_nil, hp]
    show M ++ [MO.ins C ns ((l.map AV.d).map (renV _ _))] = _
    rw [map_ren]
  · obtain ⟨o, e, p⟩ := z
    subst e
    refine ⟨[o], [], rfl, rfl, ?_⟩
    show Ψ x (putK (M ++ [.ins C [] []]) [M.length] [renO _ _ o] ++ [])
    rw [List.append_nil, hp, List.length_append]
    exact p
theorem ae_call0 {ta : TA} (mono : Mono asp) (qe : EFits B K Ψ E) (h : AA B K ta σ M fun xs M1 => Sent asp xs M1 Φ Ψ) : AE B K (tCall (conc K asp) [] E ta) σ M Φ :=
  ae_call (das := []) mono qe (fun _ _ => rfl) fun W μ H τ o s e Q q => h W μ H τ o s e Q fun x M' W' μ' H' v p => q x M' W' μ' H' v (by dsimp only; rw [List.append_nil]; exact p)
theorem ae_meth0 {m : Str} {t : TA} {ta : TE} (mono : Mono asp) (qe : EFits B K Ψ E)
    (h : AE B K ta σ M fun x M1 => ∃ ns l, x = .d (.ins C ns l) ∧ m ∉ ns ∧ AA B K t σ M1 fun xs M2 => Sent asp (x :: xs) M2 Φ Ψ) : AE B K (tMeth C m (conc K asp) [] E ta t) σ M Φ :=
  ae_meth (das := []) mono qe (fun _ _ => rfl) (h.imp fun x M' ⟨ns, l, e, hm, p⟩ => ⟨ns, l, e, hm, fun W μ H τ o s e Q q => p W μ H τ o s e Q fun x M' W' μ' H' v p => q x M' W' μ' H' v (by dsimp only; rw [List.append_nil]; exact p)⟩)
theorem au_i {g : Int → Int} {i : Int} (k : Φ (.d (.int (g i))) M) : AU B K (rU fun i => .int (g i)) (.d (.int i)) M Φ := fun W μ H u o s r Q q => by
  cases r
  exact ⟨i, rfl, q _ _ _ _ _ _ k (.refl o s) rfl⟩
/-- C(.., k = v): the parameters' values zs by what is written -/
theorem ae_makeL {n m : Nat} {gV : List V → List V → List V} {t tk : TA} (mono : Mono asp) (qe : EFits B K Ψ E)
    (h : AA B K t σ M fun xs M1 => AA B K tk σ M1 fun ys M2 => xs.length = n ∧ ys.length = m ∧ ∃ zs : List AV, (∀ W μ v vs ws, RA K W μ (.m M2.length) v → RAs K W μ xs vs → RAs K W μ ys ws → RAs K W μ zs (gV (v :: vs) ws)) ∧ Sent asp zs (M2 ++ [.ins C [] []]) (MadeOk C M2.length Φ) Ψ) : AE B K (tMakeK C n m (conc K asp) gV E t tk) σ M Φ := fun W μ H τ o s e Q q =>
  h W μ H τ o s e _ fun xs M1 W1 μ1 H1 vs p f1 r1 => p W1 μ1 H1 τ f1.ok f1.sim (f1.re e) _ fun ys M2 W2 μ2 H2 ws ⟨l1, l2, zs, hz, p2⟩ f2 r2 => ⟨by rw [← r1.length]; exact l1, by rw [← r2.length]; exact l2, fun x dx hx hdx ne => by
    obtain ⟨Wm, gm⟩ := go_made (C := C) f2.ok f2.sim hx hdx ne
    have rx : RA K Wm (μ2 ++ [x]) (.m M2.length) (.ref x) := ⟨x, by rw [← f2.sim.len, List.getElem?_append_right (Nat.le_refl _), Nat.sub_self]; rfl, rfl⟩
    refine sent_run mono gm.ok gm.sim (hz _ _ _ _ _ rx (gm.ras (f2.ras r1)) (gm.ras r2)) p2 (fun z M' W' μ' H' v p3 g r => ?_) qe
    exact made_run (f1.trans f2) f2.sim.len q z M' W' μ' H' v Wm _ gm p3 g r⟩
/-- a word between a statement and what follows -/
theorem as_cut {t u : TS} {Φ : AEnds} (Mid : AEnv → List MO → Prop) (h1 : AS B K t σ M { Φ with nx := Mid }) (h2 : ∀ σ' M', Mid σ' M' → AS B K u σ' M' Φ) : AS B K (tSeq t u) σ M Φ :=
  as_seq (h1.imp h2 (fun _ _ h => h) (fun _ _ h => h) (fun _ _ h => h))
theorem ag_lstM {Φ : AEnv → List MO → Prop} {n k : Nat} {gs : TGs} {ds : List D} (hk : M[k]? = some (.lst ds)) (hn : ds.length = n) (h : AGs B K gs (ds.map AV.d) σ M Φ) : AG B K (gLst K n gs) (.m k) σ M Φ := fun W μ H τ v o s e r Q q => by
  obtain ⟨a, h1, rfl⟩ := r
  obtain ⟨vs, h2, h3⟩ := s.ob k a _ h1 hk
  exact ⟨a, vs, rfl, SqL.of h2, by rw [← h3.length]; exact hn, h W μ H τ vs o s e (ras_ds h3) Q q⟩
end
section
variable {P : Program} {w : World} {K : PySem.W.Frag} {mg : Str → Option Value} {base : Heap}
/-- a def with defaults -/
theorem fn_alD {x qual : Str} {params : Arguments} {body : List Stmt} {scope : Scope} {dvs : List V} {kws : List (Str × V)} {f : Addr} {fd : FuncData} {N ps : List Str} {k : Nat} {asp : ASp} {CX : CXT} (F : FunD K x qual params body scope dvs kws f fd) (S : FnScope N ps scope) (len : ∀ xs M Φ Ψ, asp xs M Φ Ψ → xs.length = ps.length)
    (hbody : ∀ (cdv : Value) (A : Around) (outer : List Env) (s : Shared) (H : Hp) (E : XK), Room k (A.deeper (envOfC qual scope s.heap.objs.size f cdv)) →
      ∃ t, PSs (cxOf CX P w K mg base N qual scope f cdv A outer s H E) body t ∧ ∀ (B : Base) xs M Φ Ψ, B.μ0.length = M.length → asp xs M Φ Ψ → EFits B K (XT M.length Ψ) E → AS B K t (startA N xs) M (defEnds M.length Φ)) : FnOk P w K mg base CX (k + 1) f fd ps (conc K asp) := by
  refine F.ok S (fun vs H Q E h => ?_) (fun cdv A outer s H vs Q E hr h => ?_)
  · obtain ⟨W, μ, M, xs, _, r, ha⟩ := h
    rw [← r.length]; exact len _ _ _ _ ha
  · obtain ⟨t, h1, h2⟩ := hbody cdv A outer s H E hr
    exact ⟨t, h1, conc_body (B0 := Unit) h h2⟩
end
end Al

namespace K01
open PySem PyProof.Rows L2 Al
def top (i : Nat) : Stmt := PySem.Challenge.pw_seenstands_k01_rooms_made.main.body.getD i (.Pass ⟨0, 0, 0, 0⟩)
abbrev sBag : Stmt := top 3
abbrev sTake : Stmt := top 4
def bag (g x c : Int) : MO := .lst [.int g, .int x, .int c]
/-- built-ins that the law's own defs use -/
structure Blt (mg : Str → Option Value) : Prop where
  len : mg "len" = none
  abs : mg "abs" = none
def aBag : ASp := fun xs M Φ _ => ∃ (ns : List Int) (k : Int), xs = [.d (.scr (ns.map D.int)), .d (.int k)] ∧ M = [] ∧ 0 ≤ k ∧ k < 5 ∧ ns.length ≤ 100 ∧ ∀ g x, Φ (.m 0) [bag g x 0]
theorem mono_bag : Mono aBag := fun xs M Φ Φ' Ψ Ψ' h1 _ ⟨ns, k, e1, e2, a, b, c, p⟩ => ⟨ns, k, e1, e2, a, b, c, fun g x => h1 _ _ (p g x)⟩
def aTake : ASp := fun xs M Φ _ => ∃ (g x c n : Int), xs = [.m 0, .d (.int n)] ∧ M = [bag g x c] ∧ 0 < n ∧ n < 1000000 ∧ ∀ (r g' x' c' : Int), 0 ≤ r → r < n → Φ (.d (.int r)) [bag g' x' c']
theorem mono_take : Mono aTake := fun xs M Φ Φ' Ψ Ψ' h1 _ ⟨g, x, c, n, e1, e2, a, b, p⟩ => ⟨g, x, c, n, e1, e2, a, b, fun r g' x' c' h h' => h1 _ _ (p r g' x' c' h h')⟩
theorem scBag : FnScope ["_law_script", "_law_at", "_law_cell", "_law_great", "_law_primes"] ["_law_script", "_law_at"] (defScope sBag) := ⟨rfl, rfl, rfl, by decide +kernel, rfl, by decide +kernel, by decide +kernel⟩
theorem scTake : FnScope ["_law_bag_here", "_law_many", "_law_digit"] ["_law_bag_here", "_law_many"] (defScope sTake) := ⟨rfl, rfl, rfl, by decide +kernel, rfl, by decide +kernel, by decide +kernel⟩
local macro_rules | `(tactic| walk_at "alside") => `(tactic| first
  | decide
  | (dsimp only; decide)
  | exact Or.inr (by decide)
  | exact Or.inl (by decide)
  | (dsimp only; omega)
  | (unfold CDiv; omega)
  | (unfold CPow; omega)
  | (unfold CMul; omega)
  | assumption)
local macro_rules | `(tactic| walk_at "al1") => `(tactic| first
  | with_reducible refine as_asg ?_
  | with_reducible refine as_drop ?_
  | with_reducible refine as_ret ?_
  | with_reducible refine as_if ?_
  | with_reducible refine as_next ?_
  | with_reducible refine at_test ?_
  | with_reducible refine at_b ?_
  | with_reducible refine at_and ?_
  | with_reducible refine at_or ?_
  | with_reducible refine at_not ?_
  | with_reducible refine ae_op ?_
  | with_reducible refine ae_un ?_
  | with_reducible refine ae_cb ?_
  | with_reducible refine ae_if ?_
  | with_reducible refine ae_andV ?_
  | with_reducible refine ae_orV ?_
  | with_reducible refine ae_notV ?_
  | with_reducible refine ae_chain ?_
  | with_reducible refine ae_int ?_
  | with_reducible refine ae_bl ?_
  | with_reducible refine ae_non ?_
  | with_reducible refine ae_str ?_
  | with_reducible refine ae_ty ?_
  | with_reducible refine ae_adr ?_
  | with_reducible refine aa_nil ?_
  | with_reducible refine aa_cons ?_
  | with_reducible refine ag_name ?_
  | with_reducible refine ag_sub ?_
  | with_reducible refine at_yes ?_
  | ((with_reducible show AE _ _ (tVar _) _ _ _); refine ae_var rfl ?_)
  | ((with_reducible show AR _ _ (rI0 _) _ _ _ _); first | with_reducible refine ar_i0 ?_ | with_reducible refine ar_b0 ?_)
  | ((with_reducible show AU _ _ (rU _) _ _ _); with_reducible refine au_i ?_)
  | ((with_reducible show AR _ _ (rI _ _) _ _ _ _); refine ar_i (by walk_at "alside") ?_)
  | ((with_reducible show AR _ _ (rIxL _) _ _ _ _); first | refine ar_ixM rfl rfl ?_ | refine ar_ixL rfl ?_ | refine ar_ixS rfl ?_)
  | ((with_reducible show AR _ _ (rIxT _) _ _ _ _); refine ar_ixT rfl ?_)
  | ((with_reducible show AR _ _ rEq _ _ _ _); first | with_reducible refine ar_eqI ?_ | with_reducible refine ar_eqS ?_ | with_reducible refine ar_eqB ?_)
  | ((with_reducible show AR _ _ rNe _ _ _ _); first | with_reducible refine ar_neI ?_ | with_reducible refine ar_neS ?_ | with_reducible refine ar_neB ?_))
local macro_rules | `(tactic| walk_at "alds") => `(tactic| first
  | refine ⟨[], rfl, Nat.le_of_ble_eq_true rfl, ?_⟩
  | refine ⟨[_], rfl, Nat.le_of_ble_eq_true rfl, ?_⟩
  | refine ⟨[_, _], rfl, Nat.le_of_ble_eq_true rfl, ?_⟩
  | refine ⟨[_, _, _], rfl, Nat.le_of_ble_eq_true rfl, ?_⟩
  | refine ⟨[_, _, _, _], rfl, Nat.le_of_ble_eq_true rfl, ?_⟩
  | refine ⟨[_, _, _, _, _], rfl, Nat.le_of_ble_eq_true rfl, ?_⟩
  | refine ⟨[_, _, _, _, _, _], rfl, Nat.le_of_ble_eq_true rfl, ?_⟩
  | refine ⟨[_, _, _, _, _, _, _], rfl, Nat.le_of_ble_eq_true rfl, ?_⟩
  | refine ⟨[_, _, _, _, _, _, _, _], rfl, Nat.le_of_ble_eq_true rfl, ?_⟩
  | refine ⟨[_, _, _, _, _, _, _, _, _], rfl, Nat.le_of_ble_eq_true rfl, ?_⟩
  | refine ⟨[_, _, _, _, _, _, _, _, _, _], rfl, Nat.le_of_ble_eq_true rfl, ?_⟩
  | refine ⟨[_, _, _, _, _, _, _, _, _, _, _], rfl, Nat.le_of_ble_eq_true rfl, ?_⟩
  | refine ⟨[_, _, _, _, _, _, _, _, _, _, _, _], rfl, Nat.le_of_ble_eq_true rfl, ?_⟩)
local macro_rules | `(tactic| walk_at "alc") => `(tactic| refine ae_call0 (Ψ := fun _ _ => False) (by walk_at "almono") efits_none ?_)
local macro_rules | `(tactic| walk_at "al") => `(tactic| repeat (first | walk_at "al1" | with_reducible refine as_seq ?_ | with_reducible refine ae_tup ?_ | with_reducible walk_at "alc" | refine ⟨_, rfl, ?_⟩ | walk_at "alds" | refine ⟨_, _, _, _, _, rfl, rfl, rfl, rfl, rfl, ?_⟩))
local macro_rules | `(tactic| walk_at "alF") => `(tactic| repeat (first | walk_at "al1" | with_reducible refine as_seq ?_ | with_reducible refine ae_tup ?_ | with_reducible refine ae_lst ?_ | with_reducible walk_at "alc" | refine ⟨_, rfl, ?_⟩ | walk_at "alds" | refine ⟨_, _, _, _, _, rfl, rfl, rfl, rfl, rfl, ?_⟩))
local macro_rules | `(tactic| walk_at "alo") => `(tactic| repeat (first | walk_at "al1" | with_reducible refine ae_tup ?_ | with_reducible walk_at "alc" | refine ⟨_, rfl, ?_⟩ | walk_at "alds" | refine ⟨_, _, _, _, _, rfl, rfl, rfl, rfl, rfl, ?_⟩))
section
variable {P : Program} {w : World} {K : PySem.W.Frag} {mg : Str → Option Value} {base : Heap}
theorem rt1 {Φ : AV → List MO → Prop} {d : D} {l l' : List D} (h : Φ (.d d) [.lst l']) : RT 1 Φ (.d d) [.lst l'] := ⟨1, .d d, Nat.le_refl _, .dat, by simp [MO.below], h⟩
theorem ok_take {f : Addr} {fd : FuncData} (F : Fun K "_law_take" "_law_take" sTake f fd) : FnOk P w K mg base CX0 1 f fd ["_law_bag_here", "_law_many"] (conc K aTake) := by
  refine fn_al F scTake (fun xs M Φ Ψ h => ?_) (fun cdv A outer s H E hr => ⟨_, pss_cons (ps_if (pt_cmpR op_gt (pe_ix ix_list (pv 0) pe_int (fun _ _ => rfl)) pe_int (nomark _))
      (pss_cons (ps_set (i := 2) scTake.nd rfl (Or.inl rfl) (pe_op op_mod (pe_ix ix_list (pv 0) pe_int (fun _ _ => rfl)) (pv 1)))
        (pss_cons (ps_asg (pe_op op_fdiv (pe_ix ix_list (pv 0) pe_int (fun _ _ => rfl)) (pv 1)) (pg_sub (pv 0) pe_int set_list)) (pss_one (ps_ret (pv 2))))) pss_nil)
      (pss_cons (ps_asg (pe_op op_add (pe_ix ix_list (pv 0) pe_int (fun _ _ => rfl)) pe_int) (pg_sub (pv 0) pe_int set_list))
        (pss_cons (ps_asg (pe_op op_mod (pe_op op_add (pe_op op_add (pe_op op_mul (pe_ix ix_list (pv 0) pe_int (fun _ _ => rfl)) pe_int) (pe_op op_mul pe_int (pe_ix ix_list (pv 0) pe_int (fun _ _ => rfl)))) pe_int) pe_int) (pg_sub (pv 0) pe_int set_list))
          (pss_one (ps_ret (pe_op op_mod (pe_op op_mod (pe_op op_pow (pe_op op_fdiv (pe_ix ix_list (pv 0) pe_int (fun _ _ => rfl)) pe_int) pe_int) pe_int) (pv 1)))))), fun B xs M Φ Ψ hB h => ?_⟩)
  · obtain ⟨g, x, c, n, rfl, _⟩ := h
    rfl
  · obtain ⟨g, x, c, n, rfl, rfl, hn, hn2, k⟩ := h
    walk_at "al"
    refine ⟨fun hg => ?_, fun hg => ?_⟩
    · walk_at "al"
      exact rt1 (l := []) (k _ _ _ _ (Int.emod_nonneg _ (by omega)) (Int.emod_lt_of_pos _ hn))
    · walk_at "al"
      exact rt1 (l := []) (k _ _ _ _ (Int.emod_nonneg _ (by omega)) (Int.emod_lt_of_pos _ hn))
theorem prime_at {k : Int} (h0 : 0 ≤ k) (h : k < 5) (l : List D) (hl : l = [.int 2147483629, .int 2147483587, .int 2147483579, .int 2147483563, .int 2147483549, .int 2147483543, .int 2147483497, .int 2147483489]) : ∃ p, 0 < p ∧ atI l (k % 8) = some (.int p) := by
  subst hl
  obtain rfl | rfl | rfl | rfl | rfl : k = 0 ∨ k = 1 ∨ k = 2 ∨ k = 3 ∨ k = 4 := by omega
  all_goals exact ⟨_, by decide, rfl⟩
theorem atI_ints {ns : List Int} {k : Int} (h0 : 0 ≤ k) (h : k < (ns.length : Int)) : ∃ i, atI (ns.map D.int) k = some (.int i) := by
  have hk : k.toNat < ns.length := by omega
  refine ⟨ns[k.toNat], ?_⟩
  unfold atI ixN
  rw [List.length_map, if_pos h0, if_pos h, Option.bind_some, List.getElem?_map, List.getElem?_eq_getElem hk]
  rfl
theorem ok_bag {f : Addr} {fd : FuncData} (F : Fun K "_law_bag" "_law_bag" sBag f fd) (T : Blt mg) : FnOk P w K mg base CX0 1 f fd ["_law_script", "_law_at"] (conc K aBag) := by
  refine fn_al F scBag (fun xs M Φ Ψ h => ?_) (fun cdv A outer s H E hr => ⟨_, pss_cons (ps_set (i := 2) scBag.nd rfl (Or.inl rfl) pe_int)
      (pss_cons (ps_if (pt_cmpR op_lt (pv 1) (pe_callB call_len_seq (by rfl) T.len PySem.boot_len (pa_cons (pv 0) pa_nil)) (nomark _)) (pss_one (ps_set (i := 2) scBag.nd rfl (Or.inl rfl) (pe_ix ix_list (pv 0) (pv 1) (fun _ _ => rfl)))) pss_nil)
      (pss_cons (ps_set (i := 3) scBag.nd rfl (Or.inl rfl) pe_int)
      (pss_cons (ps_if (pt_cmpR op_ge (pe_callB call_abs (by rfl) T.abs (by decide +kernel) (pa_cons (pv 2) pa_nil)) (pe_op op_pow pe_int pe_int) (nomark _)) (pss_one (ps_set (i := 3) scBag.nd rfl (Or.inl rfl) (pe_callB call_abs (by rfl) T.abs (by decide +kernel) (pa_cons (pv 2) pa_nil)))) pss_nil)
      (pss_cons (ps_set (i := 4) scBag.nd rfl (Or.inl rfl) (pe_lst (pa_cons pe_int (pa_cons pe_int (pa_cons pe_int (pa_cons pe_int (pa_cons pe_int (pa_cons pe_int (pa_cons pe_int (pa_cons pe_int pa_nil))))))))))
      (pss_one (ps_ret (pe_lst (pa_cons (pv 3) (pa_cons (pe_op op_mod (pe_op op_pow (pe_op op_add (pe_op op_add (pe_op op_mod (pv 2) pe_int) (pe_op op_mul pe_int (pv 1))) pe_int) pe_int) (pe_ix ix_list (pv 4) (pe_op op_mod (pv 1) pe_int) (fun _ _ => rfl))) (pa_cons pe_int pa_nil)))))))))), fun B xs M Φ Ψ hB h => ?_⟩)
  · obtain ⟨ns, k, rfl, _⟩ := h
    rfl
  · obtain ⟨ns, k, rfl, rfl, h0, h5, hn, q⟩ := h
    refine as_seq ?_
    walk_at "alo"
    refine as_cut (fun σ' M' => ∃ cell : Int, σ' = [some (.d (.scr (ns.map D.int))), some (.d (.int k)), some (.d (.int cell)), none, none] ∧ M' = []) ?_ ?_
    · walk_at "alo"
      refine ac_len (.scr _) ?_
      walk_at "alo"
      rw [List.length_map]
      refine ⟨fun hb => ?_, fun hb => ?_⟩
      · obtain ⟨i, hi⟩ := atI_ints h0 (of_decide_eq_true hb)
        refine as_asg (ae_op (ae_var rfl (ae_var rfl (ar_ixS hi ?_))))
        walk_at "alo"
        exact rfl
      · exact as_next ⟨_, rfl, rfl⟩
    · rintro σ' M' ⟨cell, rfl, rfl⟩
      refine as_seq ?_
      walk_at "alo"
      refine as_cut (fun σ' M' => ∃ great : Int, σ' = [some (.d (.scr (ns.map D.int))), some (.d (.int k)), some (.d (.int cell)), some (.d (.int great)), none] ∧ M' = []) ?_ ?_
      · walk_at "alo"
        refine ac_abs ?_
        walk_at "alo"
        refine ⟨fun hb => ?_, fun hb => ?_⟩
        · walk_at "alo"
          refine ac_abs ?_
          walk_at "alo"
          exact rfl
        · exact as_next ⟨_, rfl, rfl⟩
      · rintro σ' M' ⟨great, rfl, rfl⟩
        walk_at "al"
        refine ae_lst ?_
        walk_at "al"
        refine ae_lstM ?_
        walk_at "al"
        obtain ⟨p, hp, ha⟩ := prime_at h0 h5 _ rfl
        refine ar_ixL ha (ar_i hp ?_)
        walk_at "al"
        exact ⟨1, .m 0, Nat.zero_le _, .low (by decide), by simp [MO.below], q _ _⟩
end
end K01

namespace K01
open PySem PyProof.Rows L2 Al Ow
abbrev sInit : Stmt := inClass (top 1) 0
abbrev sAll : Stmt := inClass (top 1) 1
abbrev sEq : Stmt := inClass (top 1) 2
abbrev sLen : Stmt := inClass (top 1) 3
abbrev sRepr : Stmt := inClass (top 1) 4
abbrev sTold : Stmt := top 7
def nms : List Str := ["hears", "size", "first", "rule"]
abbrev RM (C : Addr) (h s f r : D) : D := .ins C nms [h, s, f, r]
/-- what the top has written of the class Room -/
structure RoomT (K : PySem.W.Frag) (mg : Str → Option Value) (C : Addr) : Prop where
  ins : InsC K C
  nH : NoAttr K C "hears"
  nS : NoAttr K C "size"
  nF : NoAttr K C "first"
  nR : NoAttr K C "rule"
  mgC : mg "Room" = some (.ref C)
  own : OwnC K C
  isB : mg "isinstance" = none
  len : mg "len" = none
  kL : PySem.W.kitOne K (.type "list") (.ref C) = some false
  kT : PySem.W.kitOne K (.type "tuple") (.ref C) = some false
  kI : PySem.W.kitOne K (.type "int") (.ref C) = some false
  kS : PySem.W.kitOne K (.type "str") (.ref C) = some false
  kN : PySem.W.kitOne K (.type "NoneType") (.ref C) = some false
  fL : PySem.W.notFirst K C (.type "list") = true
/-- data that may be compared -/
def Good (l : List D) : Prop := D.pures l = true ∧ SeqAt.shaped (.list (toPs l)) = true
def eqRoom : D → D → Bool
  | .ins _ _ l, .ins _ _ l' => PyData.eqv (.list (toPs l)) (.list (toPs l'))
  | _, _ => false
def aInit (C : Addr) : ASp := fun xs M Φ _ => ∃ h s f r : D, xs = [.m 0, .d h, .d s, .d f, .d r] ∧ M = [.ins C [] []] ∧ Φ (.d .non) [.ins C nms [.d h, .d s, .d f, .d r]]
theorem mono_init {C : Addr} : Mono (aInit C) := fun xs M Φ Φ' Ψ Ψ' h1 _ ⟨h, s, f, r, e1, e2, p⟩ => ⟨h, s, f, r, e1, e2, h1 _ _ p⟩
def aAll (C : Addr) : ASp := fun xs M Φ _ => ∃ h s f r : D, xs = [.d (RM C h s f r)] ∧ M = [] ∧ Φ (.d (.lst [h, s, f, r])) []
theorem mono_all {C : Addr} : Mono (aAll C) := fun xs M Φ Φ' Ψ Ψ' h1 _ ⟨h, s, f, r, e1, e2, p⟩ => ⟨h, s, f, r, e1, e2, h1 _ _ p⟩
def OkD (C : Addr) (d : D) : Prop := (∃ h s f r, d = RM C h s f r ∧ Good [h, s, f, r]) ∨ d.forD = true
def aEq (C : Addr) : ASp := fun xs M Φ _ => ∃ h s f r d : D, xs = [.d (RM C h s f r), .d d] ∧ M = [] ∧ Good [h, s, f, r] ∧ OkD C d ∧ Φ (.d (.bl (eqRoom (RM C h s f r) d))) []
theorem mono_eq {C : Addr} : Mono (aEq C) := fun xs M Φ Φ' Ψ Ψ' h1 _ ⟨h, s, f, r, d, e1, e2, a, b, p⟩ => ⟨h, s, f, r, d, e1, e2, a, b, h1 _ _ p⟩
def aLen (C : Addr) : ASp := fun xs M Φ _ => ∃ (l : List D) (s f r : D), xs = [.d (RM C (.tup l) s f r)] ∧ M = [] ∧ Φ (.d (.int (l.length : Int))) []
theorem mono_len {C : Addr} : Mono (aLen C) := fun xs M Φ Φ' Ψ Ψ' h1 _ ⟨h, s, f, r, e1, e2, p⟩ => ⟨h, s, f, r, e1, e2, h1 _ _ p⟩
def aRepr (C : Addr) : ASp := fun xs M Φ _ => ∃ (h : D) (s : Int) (f r : D), xs = [.d (RM C h (.int s) f r)] ∧ M = [] ∧ s.natAbs.log2 < 1920 ∧ (toString s : Str).length ≤ 1000 ∧ Φ (.d (.str ((("Room(" : Str) ++ toString s) ++ ")"))) []
theorem mono_repr {C : Addr} : Mono (aRepr C) := fun xs M Φ Φ' Ψ Ψ' h1 _ ⟨h, s, f, r, e1, e2, a, b, p⟩ => ⟨h, s, f, r, e1, e2, a, b, h1 _ _ p⟩
def aTold (C : Addr) : ASp := aAll C
theorem scInit : FnScope ["self", "hears", "size", "first", "rule"] ["self", "hears", "size", "first", "rule"] (defScope sInit) := ⟨rfl, rfl, rfl, by decide +kernel, rfl, by decide +kernel, by decide +kernel⟩
theorem scAll : FnScope ["self"] ["self"] (defScope sAll) := ⟨rfl, rfl, rfl, by decide +kernel, rfl, by decide +kernel, by decide +kernel⟩
theorem scEq : FnScope ["self", "other"] ["self", "other"] (defScope sEq) := ⟨rfl, rfl, rfl, by decide +kernel, rfl, by decide +kernel, by decide +kernel⟩
theorem scLen : FnScope ["self"] ["self"] (defScope sLen) := ⟨rfl, rfl, rfl, by decide +kernel, rfl, by decide +kernel, by decide +kernel⟩
theorem scRepr : FnScope ["self"] ["self"] (defScope sRepr) := ⟨rfl, rfl, rfl, by decide +kernel, rfl, by decide +kernel, by decide +kernel⟩
theorem scTold : FnScope ["_law_room"] ["_law_room"] (defScope sTold) := ⟨rfl, rfl, rfl, by decide +kernel, rfl, by decide +kernel, by decide +kernel⟩
local macro_rules | `(tactic| walk_at "alside") => `(tactic| first
  | decide
  | (dsimp only; decide)
  | exact Or.inr (by decide)
  | exact Or.inl (by decide)
  | (dsimp only; omega)
  | (unfold CDiv; omega)
  | (unfold CPow; omega)
  | (unfold CMul; omega)
  | assumption)
local macro_rules | `(tactic| walk_at "al1") => `(tactic| first
  | with_reducible refine as_asg ?_
  | with_reducible refine as_drop ?_
  | with_reducible refine as_ret ?_
  | with_reducible refine as_if ?_
  | with_reducible refine as_next ?_
  | with_reducible refine at_test ?_
  | with_reducible refine at_b ?_
  | with_reducible refine at_and ?_
  | with_reducible refine at_or ?_
  | with_reducible refine at_not ?_
  | with_reducible refine ae_op ?_
  | with_reducible refine ae_un ?_
  | with_reducible refine ae_cb ?_
  | with_reducible refine ae_if ?_
  | with_reducible refine ae_andV ?_
  | with_reducible refine ae_orV ?_
  | with_reducible refine ae_notV ?_
  | with_reducible refine ae_chain ?_
  | with_reducible refine ae_int ?_
  | with_reducible refine ae_bl ?_
  | with_reducible refine ae_non ?_
  | with_reducible refine ae_str ?_
  | with_reducible refine ae_ty ?_
  | with_reducible refine ae_adr ?_
  | with_reducible refine aa_nil ?_
  | with_reducible refine aa_cons ?_
  | with_reducible refine ag_name ?_
  | with_reducible refine ag_sub ?_
  | with_reducible refine at_yes ?_
  | ((with_reducible show AE _ _ (tVar _) _ _ _); refine ae_var rfl ?_)
  | ((with_reducible show AR _ _ (rI0 _) _ _ _ _); first | with_reducible refine ar_i0 ?_ | with_reducible refine ar_b0 ?_)
  | ((with_reducible show AU _ _ (rU _) _ _ _); with_reducible refine au_i ?_)
  | ((with_reducible show AR _ _ (rI _ _) _ _ _ _); refine ar_i (by walk_at "alside") ?_)
  | ((with_reducible show AR _ _ (rIxL _) _ _ _ _); first | refine ar_ixM rfl rfl ?_ | refine ar_ixL rfl ?_ | refine ar_ixS rfl ?_)
  | ((with_reducible show AR _ _ (rIxT _) _ _ _ _); refine ar_ixT rfl ?_)
  | ((with_reducible show AR _ _ rEq _ _ _ _); first | with_reducible refine ar_eqI ?_ | with_reducible refine ar_eqS ?_ | with_reducible refine ar_eqB ?_)
  | ((with_reducible show AR _ _ rNe _ _ _ _); first | with_reducible refine ar_neI ?_ | with_reducible refine ar_neS ?_ | with_reducible refine ar_neB ?_))
local macro_rules | `(tactic| walk_at "alds") => `(tactic| first
  | refine ⟨[], rfl, Nat.le_of_ble_eq_true rfl, ?_⟩
  | refine ⟨[_], rfl, Nat.le_of_ble_eq_true rfl, ?_⟩
  | refine ⟨[_, _], rfl, Nat.le_of_ble_eq_true rfl, ?_⟩
  | refine ⟨[_, _, _], rfl, Nat.le_of_ble_eq_true rfl, ?_⟩
  | refine ⟨[_, _, _, _], rfl, Nat.le_of_ble_eq_true rfl, ?_⟩
  | refine ⟨[_, _, _, _, _], rfl, Nat.le_of_ble_eq_true rfl, ?_⟩
  | refine ⟨[_, _, _, _, _, _], rfl, Nat.le_of_ble_eq_true rfl, ?_⟩
  | refine ⟨[_, _, _, _, _, _, _], rfl, Nat.le_of_ble_eq_true rfl, ?_⟩
  | refine ⟨[_, _, _, _, _, _, _, _], rfl, Nat.le_of_ble_eq_true rfl, ?_⟩
  | refine ⟨[_, _, _, _, _, _, _, _, _], rfl, Nat.le_of_ble_eq_true rfl, ?_⟩
  | refine ⟨[_, _, _, _, _, _, _, _, _, _], rfl, Nat.le_of_ble_eq_true rfl, ?_⟩
  | refine ⟨[_, _, _, _, _, _, _, _, _, _, _], rfl, Nat.le_of_ble_eq_true rfl, ?_⟩
  | refine ⟨[_, _, _, _, _, _, _, _, _, _, _, _], rfl, Nat.le_of_ble_eq_true rfl, ?_⟩)
local macro_rules | `(tactic| walk_at "alc") => `(tactic| refine ae_call0 (Ψ := fun _ _ => False) (by walk_at "almono") efits_none ?_)
local macro_rules | `(tactic| walk_at "al") => `(tactic| repeat (first | walk_at "al1" | with_reducible refine as_seq ?_ | with_reducible refine ae_tup ?_ | with_reducible walk_at "alc" | refine ⟨_, rfl, ?_⟩ | walk_at "alds" | refine ⟨_, _, _, _, _, rfl, rfl, rfl, rfl, rfl, ?_⟩))
local macro_rules | `(tactic| walk_at "alF") => `(tactic| repeat (first | walk_at "al1" | with_reducible refine as_seq ?_ | with_reducible refine ae_tup ?_ | with_reducible refine ae_lst ?_ | with_reducible walk_at "alc" | refine ⟨_, rfl, ?_⟩ | walk_at "alds" | refine ⟨_, _, _, _, _, rfl, rfl, rfl, rfl, rfl, ?_⟩))
local macro_rules | `(tactic| walk_at "alo") => `(tactic| repeat (first | walk_at "al1" | with_reducible refine ae_tup ?_ | with_reducible walk_at "alc" | refine ⟨_, rfl, ?_⟩ | walk_at "alds" | refine ⟨_, _, _, _, _, rfl, rfl, rfl, rfl, rfl, ?_⟩))
theorem rt0 {Φ : AV → List MO → Prop} {d : D} (h : Φ (.d d) []) : RT 0 Φ (.d d) [] := ⟨0, .d d, Nat.le_refl _, .dat, by simp, h⟩
section
variable {P : Program} {w : World} {K : PySem.W.Frag} {mg : Str → Option Value} {base : Heap} {C : Addr}
theorem ok_init {f : Addr} {fd : FuncData} {dvs : List V} {kws : List (Str × V)} (F : FunD K "__init__" "Room.__init__" (defArgs sInit) (defBody sInit) (defScope sInit) dvs kws f fd) (T : RoomT K mg C) : FnOk P w K mg base CX0 1 f fd ["self", "hears", "size", "first", "rule"] (conc K (aInit C)) := by
  refine fn_alD F scInit (fun xs M Φ Ψ h => ?_) (fun cdv A outer s H E hr => ⟨_, pss_cons (ps_fld (pv 0) (pv 1) rfl) (pss_cons (ps_fld (pv 0) (pv 2) rfl) (pss_cons (ps_fld (pv 0) (pv 3) rfl) (pss_one (ps_fld (pv 0) (pv 4) rfl)))), fun B xs M Φ Ψ hB h _ => ?_⟩)
  · obtain ⟨h, s, f, r, rfl, _⟩ := h
    rfl
  · obtain ⟨h, s, f, r, rfl, rfl, k⟩ := h
    refine as_seq (as_fld (ae_var rfl (ae_var rfl ⟨0, C, _, _, rfl, rfl, T.ins.cl, T.nH, by decide +kernel, by decide, ?_⟩)))
    refine as_seq (as_fld (ae_var rfl (ae_var rfl ⟨0, C, _, _, rfl, rfl, T.ins.cl, T.nS, by decide +kernel, by decide, ?_⟩)))
    refine as_seq (as_fld (ae_var rfl (ae_var rfl ⟨0, C, _, _, rfl, rfl, T.ins.cl, T.nF, by decide +kernel, by decide, ?_⟩)))
    refine as_fld (ae_var rfl (ae_var rfl ⟨0, C, _, _, rfl, rfl, T.ins.cl, T.nR, by decide +kernel, by decide, ?_⟩))
    exact ⟨1, .d .non, Nat.le_refl _, .dat, by simp [MO.below, AV.below], k⟩
theorem ok_told {f : Addr} {fd : FuncData} (F : Fun K "_law_told" "_law_told" sTold f fd) (T : RoomT K mg C) : FnOk P w K mg base CX0 1 f fd ["_law_room"] (conc K (aTold C)) := by
  refine fn_al F scTold (fun xs M Φ Ψ h => ?_) (fun cdv A outer s H E hr => ⟨_, pss_one (ps_ret (pe_lst (pa_cons (pe_fld (pv 0) rfl) (pa_cons (pe_fld (pv 0) rfl) (pa_cons (pe_fld (pv 0) rfl) (pa_cons (pe_fld (pv 0) rfl) pa_nil)))))), fun B xs M Φ Ψ hB h => ?_⟩)
  · obtain ⟨h, s, f, r, rfl, _⟩ := h
    rfl
  · obtain ⟨h, s, f, r, rfl, rfl, k⟩ := h
    walk_at "al"
    refine ae_lst ?_
    refine aa_cons (ae_fld (ae_var rfl ⟨C, nms, _, h, rfl, T.ins.cl, T.nH, by rfl, ?_⟩))
    refine aa_cons (ae_fld (ae_var rfl ⟨C, nms, _, s, rfl, T.ins.cl, T.nS, by rfl, ?_⟩))
    refine aa_cons (ae_fld (ae_var rfl ⟨C, nms, _, f, rfl, T.ins.cl, T.nF, by rfl, ?_⟩))
    refine aa_cons (ae_fld (ae_var rfl ⟨C, nms, _, r, rfl, T.ins.cl, T.nR, by rfl, ?_⟩))
    exact aa_nil ⟨[_, _, _, _], rfl, (by show 4 ≤ sizeLine; decide), rt0 k⟩
end
end K01

namespace K01
open PySem PyProof.Rows L2 Al Ow
local macro_rules | `(tactic| walk_at "alside") => `(tactic| first
  | decide
  | (dsimp only; decide)
  | exact Or.inr (by decide)
  | exact Or.inl (by decide)
  | (dsimp only; omega)
  | (unfold CDiv; omega)
  | (unfold CPow; omega)
  | (unfold CMul; omega)
  | assumption)
local macro_rules | `(tactic| walk_at "al1") => `(tactic| first
  | with_reducible refine as_asg ?_
  | with_reducible refine as_drop ?_
  | with_reducible refine as_ret ?_
  | with_reducible refine as_if ?_
  | with_reducible refine as_next ?_
  | with_reducible refine at_test ?_
  | with_reducible refine at_b ?_
  | with_reducible refine at_and ?_
  | with_reducible refine at_or ?_
  | with_reducible refine at_not ?_
  | with_reducible refine ae_op ?_
  | with_reducible refine ae_un ?_
  | with_reducible refine ae_cb ?_
  | with_reducible refine ae_if ?_
  | with_reducible refine ae_andV ?_
  | with_reducible refine ae_orV ?_
  | with_reducible refine ae_notV ?_
  | with_reducible refine ae_chain ?_
  | with_reducible refine ae_int ?_
  | with_reducible refine ae_bl ?_
  | with_reducible refine ae_non ?_
  | with_reducible refine ae_str ?_
  | with_reducible refine ae_ty ?_
  | with_reducible refine ae_adr ?_
  | with_reducible refine aa_nil ?_
  | with_reducible refine aa_cons ?_
  | with_reducible refine ag_name ?_
  | with_reducible refine ag_sub ?_
  | with_reducible refine at_yes ?_
  | ((with_reducible show AE _ _ (tVar _) _ _ _); refine ae_var rfl ?_)
  | ((with_reducible show AR _ _ (rI0 _) _ _ _ _); first | with_reducible refine ar_i0 ?_ | with_reducible refine ar_b0 ?_)
  | ((with_reducible show AU _ _ (rU _) _ _ _); with_reducible refine au_i ?_)
  | ((with_reducible show AR _ _ (rI _ _) _ _ _ _); refine ar_i (by walk_at "alside") ?_)
  | ((with_reducible show AR _ _ (rIxL _) _ _ _ _); first | refine ar_ixM rfl rfl ?_ | refine ar_ixL rfl ?_ | refine ar_ixS rfl ?_)
  | ((with_reducible show AR _ _ (rIxT _) _ _ _ _); refine ar_ixT rfl ?_)
  | ((with_reducible show AR _ _ rEq _ _ _ _); first | with_reducible refine ar_eqI ?_ | with_reducible refine ar_eqS ?_ | with_reducible refine ar_eqB ?_)
  | ((with_reducible show AR _ _ rNe _ _ _ _); first | with_reducible refine ar_neI ?_ | with_reducible refine ar_neS ?_ | with_reducible refine ar_neB ?_))
local macro_rules | `(tactic| walk_at "alds") => `(tactic| first
  | refine ⟨[], rfl, Nat.le_of_ble_eq_true rfl, ?_⟩
  | refine ⟨[_], rfl, Nat.le_of_ble_eq_true rfl, ?_⟩
  | refine ⟨[_, _], rfl, Nat.le_of_ble_eq_true rfl, ?_⟩
  | refine ⟨[_, _, _], rfl, Nat.le_of_ble_eq_true rfl, ?_⟩
  | refine ⟨[_, _, _, _], rfl, Nat.le_of_ble_eq_true rfl, ?_⟩
  | refine ⟨[_, _, _, _, _], rfl, Nat.le_of_ble_eq_true rfl, ?_⟩
  | refine ⟨[_, _, _, _, _, _], rfl, Nat.le_of_ble_eq_true rfl, ?_⟩
  | refine ⟨[_, _, _, _, _, _, _], rfl, Nat.le_of_ble_eq_true rfl, ?_⟩
  | refine ⟨[_, _, _, _, _, _, _, _], rfl, Nat.le_of_ble_eq_true rfl, ?_⟩
  | refine ⟨[_, _, _, _, _, _, _, _, _], rfl, Nat.le_of_ble_eq_true rfl, ?_⟩
  | refine ⟨[_, _, _, _, _, _, _, _, _, _], rfl, Nat.le_of_ble_eq_true rfl, ?_⟩
  | refine ⟨[_, _, _, _, _, _, _, _, _, _, _], rfl, Nat.le_of_ble_eq_true rfl, ?_⟩
  | refine ⟨[_, _, _, _, _, _, _, _, _, _, _, _], rfl, Nat.le_of_ble_eq_true rfl, ?_⟩)
local macro_rules | `(tactic| walk_at "alc") => `(tactic| refine ae_call0 (Ψ := fun _ _ => False) (by walk_at "almono") efits_none ?_)
local macro_rules | `(tactic| walk_at "al") => `(tactic| repeat (first | walk_at "al1" | with_reducible refine as_seq ?_ | with_reducible refine ae_tup ?_ | with_reducible walk_at "alc" | refine ⟨_, rfl, ?_⟩ | walk_at "alds" | refine ⟨_, _, _, _, _, rfl, rfl, rfl, rfl, rfl, ?_⟩))
local macro_rules | `(tactic| walk_at "alF") => `(tactic| repeat (first | walk_at "al1" | with_reducible refine as_seq ?_ | with_reducible refine ae_tup ?_ | with_reducible refine ae_lst ?_ | with_reducible walk_at "alc" | refine ⟨_, rfl, ?_⟩ | walk_at "alds" | refine ⟨_, _, _, _, _, rfl, rfl, rfl, rfl, rfl, ?_⟩))
local macro_rules | `(tactic| walk_at "alo") => `(tactic| repeat (first | walk_at "al1" | with_reducible refine ae_tup ?_ | with_reducible walk_at "alc" | refine ⟨_, rfl, ?_⟩ | walk_at "alds" | refine ⟨_, _, _, _, _, rfl, rfl, rfl, rfl, rfl, ?_⟩))
theorem str_empty (x : Str) : Str.empty ++ x = x := by
  cases x with | mk c => show (⟨#[] ++ c⟩ : Str) = ⟨c⟩; simp
theorem len_app (a b : Str) : (a ++ b).length = a.length + b.length := by
  cases a with | mk a => cases b with | mk b => show (a ++ b).size = a.size + b.size; exact Array.size_append
theorem kit_self {K : PySem.W.Frag} {v : Value} : PySem.W.kitOne K v v = some true := by
  unfold PySem.W.kitOne
  rw [if_pos (beq_self_eq_true _)]
section
variable {P : Program} {w : World} {K : PySem.W.Frag} {mg : Str → Option Value} {base : Heap} {C : Addr}
theorem ok_all {f : Addr} {fd : FuncData} (F : Fun K "all_four" "Room.all_four" sAll f fd) (T : RoomT K mg C) : FnOk P w K mg base CX0 1 f fd ["self"] (conc K (aAll C)) := by
  refine fn_al F scAll (fun xs M Φ Ψ h => ?_) (fun cdv A outer s H E hr => ⟨_, pss_one (ps_ret (pe_lst (pa_cons (pe_fld (pv 0) rfl) (pa_cons (pe_fld (pv 0) rfl) (pa_cons (pe_fld (pv 0) rfl) (pa_cons (pe_fld (pv 0) rfl) pa_nil)))))), fun B xs M Φ Ψ hB h => ?_⟩)
  · obtain ⟨h, s, f, r, rfl, _⟩ := h
    rfl
  · obtain ⟨h, s, f, r, rfl, rfl, k⟩ := h
    walk_at "al"
    refine ae_lst ?_
    refine aa_cons (ae_fld (ae_var rfl ⟨C, nms, _, h, rfl, T.ins.cl, T.nH, by rfl, ?_⟩))
    refine aa_cons (ae_fld (ae_var rfl ⟨C, nms, _, s, rfl, T.ins.cl, T.nS, by rfl, ?_⟩))
    refine aa_cons (ae_fld (ae_var rfl ⟨C, nms, _, f, rfl, T.ins.cl, T.nF, by rfl, ?_⟩))
    refine aa_cons (ae_fld (ae_var rfl ⟨C, nms, _, r, rfl, T.ins.cl, T.nR, by rfl, ?_⟩))
    exact aa_nil ⟨[_, _, _, _], rfl, (by show 4 ≤ sizeLine; decide), rt0 k⟩
theorem ok_len {f : Addr} {fd : FuncData} (F : Fun K "__len__" "Room.__len__" sLen f fd) (T : RoomT K mg C) : FnOk P w K mg base CX0 1 f fd ["self"] (conc K (aLen C)) := by
  refine fn_al F scLen (fun xs M Φ Ψ h => ?_) (fun cdv A outer s H E hr => ⟨_, pss_one (ps_ret (pe_callB call_len_seq (by rfl) T.len PySem.boot_len (pa_cons (pe_fld (pv 0) rfl) pa_nil))), fun B xs M Φ Ψ hB h => ?_⟩)
  · obtain ⟨h, s, f, r, rfl, _⟩ := h
    rfl
  · obtain ⟨l, s, f, r, rfl, rfl, k⟩ := h
    walk_at "al"
    refine ae_fld (ae_var rfl ⟨C, nms, _, .tup l, rfl, T.ins.cl, T.nH, by rfl, ?_⟩)
    exact aa_nil (ac_lenT (rt0 k))
theorem ok_repr {f : Addr} {fd : FuncData} (F : Fun K "__repr__" "Room.__repr__" sRepr f fd) (T : RoomT K mg C) : FnOk P w K mg base CX0 1 f fd ["self"] (conc K (aRepr C)) := by
  refine fn_al F scRepr (fun xs M Φ Ψ h => ?_) (fun cdv A outer s H E hr => ⟨_, pss_one (ps_ret (pe_joined (.cons pe_str (.cons (pe_fmt (pe_fld (pv 0) rfl)) (.cons pe_str .nil))))), fun B xs M Φ Ψ hB h => ?_⟩)
  · obtain ⟨h, s, f, r, rfl, _⟩ := h
    rfl
  · obtain ⟨h, s, f, r, rfl, rfl, hz, hl, k⟩ := h
    walk_at "al"
    refine ae_js (ae_str ⟨_, rfl, by decide +kernel, ?_⟩)
    refine ae_js (ae_fmt (ae_fld (ae_var rfl ⟨C, nms, _, .int s, rfl, T.ins.cl, T.nS, by rfl, .inr ⟨s, rfl, hz, _, rfl, ?_, ?_⟩⟩)))
    · rw [str_empty, len_app]
      have : ("Room(" : Str).length = 5 := by decide +kernel
      have : sizeLine = 16777216 := sizeLine_eq
      omega
    · refine ae_js (ae_str ⟨_, rfl, ?_, ae_js0 ?_⟩)
      · rw [str_empty, len_app, len_app]
        have : ("Room(" : Str).length = 5 := by decide +kernel
        have : (")" : Str).length = 1 := by decide +kernel
        have : sizeLine = 16777216 := sizeLine_eq
        omega
      · rw [str_empty]
        exact rt0 k
theorem ok_eq {f fA : Addr} {fd fdA : FuncData} (F : Fun K "__eq__" "Room.__eq__" sEq f fd) (T : RoomT K mg C) (FA : Fun K "all_four" "Room.all_four" sAll fA fdA) (bA : Binds K fdA ["self"] []) (mA : Meth K C "all_four" fA) : FnOk P w K mg base CX0 2 f fd ["self", "other"] (conc K (aEq C)) := by
  have GA : FnOk P w K mg base CX0 1 fA fdA ["self"] (conc K (aAll C)) := ok_all FA T
  refine fn_al F scEq (fun xs M Φ Ψ h => ?_) (fun cdv A outer s H E hr => ⟨_, pss_one (ps_ret (pe_and (pe_callB call_isi (by rfl) T.isB (by decide +kernel) (pa_cons (pv 1) (pa_cons (pe_glob (v := .ref C) rfl T.mgC rfl) pa_nil)))
      (pe_one (pe_cmpR (op_eqD hr.units) (pe_meth0 (pv 0) T.ins.cl mA GA hr bA .nil pass0) (pe_meth0 (pv 1) T.ins.cl mA GA hr bA .nil pass0) (nomark _))))), fun B xs M Φ Ψ hB h => ?_⟩)
  · obtain ⟨h, s, f, r, d, rfl, _⟩ := h
    rfl
  · obtain ⟨h, s, f, r, d, rfl, rfl, hg, hd, k⟩ := h
    walk_at "al"
    rcases hd with ⟨h', s', f', r', rfl, hg'⟩ | hf
    · refine ac_isiC (b := true) T.ins ?_ ?_
      · exact kit_self
      · refine ⟨true, rfl, fun _ => ?_, fun z => nomatch z⟩
        walk_at "al"
        refine ae_meth (Ψ := fun _ _ => False) mono_all efits_none (das := []) (fun _ _ => rfl) (ae_var rfl ⟨nms, _, rfl, by decide +kernel, aa_nil ?_⟩)
        refine sent0 (ys := [RM C h s f r]) mono_all ⟨h, s, f, r, rfl, rfl, rfl, _, rfl, ?_⟩
        refine ae_meth (Ψ := fun _ _ => False) mono_all efits_none (das := []) (fun _ _ => rfl) (ae_var rfl ⟨nms, _, rfl, by decide +kernel, aa_nil ?_⟩)
        refine sent0 (ys := [RM C h' s' f' r']) mono_all ⟨h', s', f', r', rfl, rfl, rfl, _, rfl, ?_⟩
        refine ar_eqD (.d hg.1) (.d hg'.1) hg.2 hg'.2 (rt0 k)
    · have fin : PySem.W.kitOne K (tyD d) (.ref C) = some false ∧ TyK K d ∧ eqRoom (RM C h s f r) d = false := by
        cases d with
        | non => exact ⟨T.kN, trivial, rfl⟩
        | bl b => cases hf
        | int i => exact ⟨T.kI, trivial, rfl⟩
        | str i => exact ⟨T.kS, trivial, rfl⟩
        | ty n => cases hf
        | adr a => cases hf
        | tup l => exact ⟨T.kT, trivial, rfl⟩
        | lst l => exact ⟨T.kL, trivial, rfl⟩
        | scr l => exact ⟨T.kL, trivial, rfl⟩
        | ins C' ns l => cases hf
      obtain ⟨hk, ht, he⟩ := fin
      rw [he] at k
      exact ac_isiC (b := false) ht hk ⟨false, rfl, fun z => (nomatch z), fun _ => rt0 k⟩
end
end K01

namespace K01
open PySem PyProof.Rows L2 Al Ow
abbrev sFour : Stmt := top 5
abbrev sMade : Stmt := top 6
theorem scFour : FnScope ["_law_bag_here", "_law_some", "_law_rules", "_law_numbers", "_law_four_here"] ["_law_bag_here"] (defScope sFour) := ⟨rfl, rfl, rfl, by decide +kernel, rfl, by decide +kernel, by decide +kernel⟩
theorem scMade : FnScope ["_law_four_here", "_law_kind", "_law_ears", "_law_wide", "_law_begin", "_law_deed_of"] ["_law_four_here", "_law_kind"] (defScope sMade) := ⟨rfl, rfl, rfl, by decide +kernel, rfl, by decide +kernel, by decide +kernel⟩
def Hs : List D := [.tup [], .tup [.int 0], .tup [.int 1, .int 0, .int 2], .tup [.int 2, .int 1], .lst [.int 0], .str "ab"]
def Rs : List D := [.tup [.int 0], .tup [.int 1, .int 0], .tup [.int 0, .int 1], .tup [], .tup [.int 0, .int 1, .int 0, .int 1], .str "rule"]
def Ns : List Int := [2, 1, 60, 0, -3, 10 ^ 30, 7]
def aFour : ASp := fun xs M Φ _ => ∃ g x c : Int, xs = [.m 0] ∧ M = [bag g x c] ∧ ∀ h s f r, h ∈ Hs → s ∈ Ns → f ∈ Ns → r ∈ Rs → ∀ g' x' c', Φ (.d (.lst [h, .int s, .int f, r])) [bag g' x' c']
theorem mono_four : Mono aFour := fun xs M Φ Φ' Ψ Ψ' h1 _ ⟨g, x, c, e1, e2, p⟩ => ⟨g, x, c, e1, e2, fun h s f r a b c d g' x' c' => h1 _ _ (p h s f r a b c d g' x' c')⟩
local macro_rules | `(tactic| walk_at "alside") => `(tactic| first
  | decide
  | (dsimp only; decide)
  | exact Or.inr (by decide)
  | exact Or.inl (by decide)
  | (dsimp only; omega)
  | (unfold CDiv; omega)
  | (unfold CPow; omega)
  | (unfold CMul; omega)
  | assumption)
local macro_rules | `(tactic| walk_at "al1") => `(tactic| first
  | with_reducible refine as_asg ?_
  | with_reducible refine as_drop ?_
  | with_reducible refine as_ret ?_
  | with_reducible refine as_if ?_
  | with_reducible refine as_next ?_
  | with_reducible refine at_test ?_
  | with_reducible refine at_b ?_
  | with_reducible refine at_and ?_
  | with_reducible refine at_or ?_
  | with_reducible refine at_not ?_
  | with_reducible refine ae_op ?_
  | with_reducible refine ae_un ?_
  | with_reducible refine ae_cb ?_
  | with_reducible refine ae_if ?_
  | with_reducible refine ae_andV ?_
  | with_reducible refine ae_orV ?_
  | with_reducible refine ae_notV ?_
  | with_reducible refine ae_chain ?_
  | with_reducible refine ae_int ?_
  | with_reducible refine ae_bl ?_
  | with_reducible refine ae_non ?_
  | with_reducible refine ae_str ?_
  | with_reducible refine ae_ty ?_
  | with_reducible refine ae_adr ?_
  | with_reducible refine aa_nil ?_
  | with_reducible refine aa_cons ?_
  | with_reducible refine ag_name ?_
  | with_reducible refine ag_sub ?_
  | with_reducible refine at_yes ?_
  | ((with_reducible show AE _ _ (tVar _) _ _ _); refine ae_var rfl ?_)
  | ((with_reducible show AR _ _ (rI0 _) _ _ _ _); first | with_reducible refine ar_i0 ?_ | with_reducible refine ar_b0 ?_)
  | ((with_reducible show AU _ _ (rU _) _ _ _); with_reducible refine au_i ?_)
  | ((with_reducible show AR _ _ (rI _ _) _ _ _ _); refine ar_i (by walk_at "alside") ?_)
  | ((with_reducible show AR _ _ (rIxL _) _ _ _ _); first | refine ar_ixM rfl rfl ?_ | refine ar_ixL rfl ?_ | refine ar_ixS rfl ?_)
  | ((with_reducible show AR _ _ (rIxT _) _ _ _ _); refine ar_ixT rfl ?_)
  | ((with_reducible show AR _ _ rEq _ _ _ _); first | with_reducible refine ar_eqI ?_ | with_reducible refine ar_eqS ?_ | with_reducible refine ar_eqB ?_)
  | ((with_reducible show AR _ _ rNe _ _ _ _); first | with_reducible refine ar_neI ?_ | with_reducible refine ar_neS ?_ | with_reducible refine ar_neB ?_))
local macro_rules | `(tactic| walk_at "alds") => `(tactic| first
  | refine ⟨[], rfl, Nat.le_of_ble_eq_true rfl, ?_⟩
  | refine ⟨[_], rfl, Nat.le_of_ble_eq_true rfl, ?_⟩
  | refine ⟨[_, _], rfl, Nat.le_of_ble_eq_true rfl, ?_⟩
  | refine ⟨[_, _, _], rfl, Nat.le_of_ble_eq_true rfl, ?_⟩
  | refine ⟨[_, _, _, _], rfl, Nat.le_of_ble_eq_true rfl, ?_⟩
  | refine ⟨[_, _, _, _, _], rfl, Nat.le_of_ble_eq_true rfl, ?_⟩
  | refine ⟨[_, _, _, _, _, _], rfl, Nat.le_of_ble_eq_true rfl, ?_⟩
  | refine ⟨[_, _, _, _, _, _, _], rfl, Nat.le_of_ble_eq_true rfl, ?_⟩
  | refine ⟨[_, _, _, _, _, _, _, _], rfl, Nat.le_of_ble_eq_true rfl, ?_⟩
  | refine ⟨[_, _, _, _, _, _, _, _, _], rfl, Nat.le_of_ble_eq_true rfl, ?_⟩
  | refine ⟨[_, _, _, _, _, _, _, _, _, _], rfl, Nat.le_of_ble_eq_true rfl, ?_⟩
  | refine ⟨[_, _, _, _, _, _, _, _, _, _, _], rfl, Nat.le_of_ble_eq_true rfl, ?_⟩
  | refine ⟨[_, _, _, _, _, _, _, _, _, _, _, _], rfl, Nat.le_of_ble_eq_true rfl, ?_⟩)
local macro_rules | `(tactic| walk_at "alc") => `(tactic| refine ae_call0 (Ψ := fun _ _ => False) (by walk_at "almono") efits_none ?_)
local macro_rules | `(tactic| walk_at "al") => `(tactic| repeat (first | walk_at "al1" | with_reducible refine as_seq ?_ | with_reducible refine ae_tup ?_ | with_reducible walk_at "alc" | refine ⟨_, rfl, ?_⟩ | walk_at "alds" | refine ⟨_, _, _, _, _, rfl, rfl, rfl, rfl, rfl, ?_⟩))
local macro_rules | `(tactic| walk_at "alF") => `(tactic| repeat (first | walk_at "al1" | with_reducible refine as_seq ?_ | with_reducible refine ae_tup ?_ | with_reducible refine ae_lst ?_ | with_reducible walk_at "alc" | refine ⟨_, rfl, ?_⟩ | walk_at "alds" | refine ⟨_, _, _, _, _, rfl, rfl, rfl, rfl, rfl, ?_⟩))
local macro_rules | `(tactic| walk_at "alo") => `(tactic| repeat (first | walk_at "al1" | with_reducible refine ae_tup ?_ | with_reducible walk_at "alc" | refine ⟨_, rfl, ?_⟩ | walk_at "alds" | refine ⟨_, _, _, _, _, rfl, rfl, rfl, rfl, rfl, ?_⟩))
local macro_rules | `(tactic| walk_at "almono") => `(tactic| first | exact mono_take | exact mono_init | exact mono_told)
theorem atI_mem {l : List D} {i : Int} {n : Int} (h0 : 0 ≤ i) (h : i < n) (hn : n = (l.length : Int)) : ∃ d, d ∈ l ∧ atI l i = some d := by
  subst hn
  have hk : i.toNat < l.length := by omega
  refine ⟨l[i.toNat], List.getElem_mem hk, ?_⟩
  unfold atI ixN
  rw [if_pos h0, if_pos h, Option.bind_some, List.getElem?_eq_getElem hk]
/-- a def of the law's: where it stands, how it is called -/
structure Cal (K : PySem.W.Frag) (mg : Str → Option Value) (n : Str) (ps : List Str) (f : Addr) (fd : FuncData) : Prop where
  mg : mg n = some (.ref f)
  kp : PySem.W.keepIn K (.ref f) = true
  b : Binds K fd ps []
section
variable {P : Program} {w : World} {K : PySem.W.Frag} {mg : Str → Option Value} {base : Heap} {C : Addr}
theorem mono_told {C : Addr} : Mono (aTold C) := mono_all
theorem take_sent {M : List MO} {k : Nat} {g x c n : Int} {Φ : AV → List MO → Prop} {Ψ : Exc → List MO → Prop} (hk : M[k]? = some (bag g x c)) (h0 : 0 < n) (h1 : n < 1000000) (q : ∀ r g' x' c' : Int, 0 ≤ r → r < n → Φ (.d (.int r)) (M.set k (bag g' x' c'))) : Sent aTake [.m k, .d (.int n)] M Φ Ψ :=
  sent1 (xs' := [.m 0, .d (.int n)]) mono_take hk rfl rfl ⟨g, x, c, n, rfl, rfl, h0, h1, fun r g' x' c' h h' => ⟨_, _, rfl, rfl, q r g' x' c' h h'⟩⟩
theorem ok_four {f fT : Addr} {fd fdT : FuncData} (F : Fun K "_law_four" "_law_four" sFour f fd) (FT : Fun K "_law_take" "_law_take" sTake fT fdT) (cT : Cal K mg "_law_take" ["_law_bag_here", "_law_many"] fT fdT) : FnOk P w K mg base CX0 2 f fd ["_law_bag_here"] (conc K aFour) := by
  have GT : FnOk P w K mg base CX0 1 fT fdT ["_law_bag_here", "_law_many"] (conc K aTake) := ok_take FT
  refine fn_al F scFour (fun xs M Φ Ψ h => ?_) (fun cdv A outer s H E hr => ⟨_, pss_cons (ps_set (i := 1) scFour.nd rfl (Or.inl rfl) (pe_lst (pa_cons (pe_tup pa_nil) (pa_cons (pe_tup (pa_cons pe_int pa_nil)) (pa_cons (pe_tup (pa_cons pe_int (pa_cons pe_int (pa_cons pe_int pa_nil)))) (pa_cons (pe_tup (pa_cons pe_int (pa_cons pe_int pa_nil))) (pa_cons (pe_lst (pa_cons pe_int pa_nil)) (pa_cons pe_str pa_nil))))))))
      (pss_cons (ps_set (i := 2) scFour.nd rfl (Or.inl rfl) (pe_lst (pa_cons (pe_tup (pa_cons pe_int pa_nil)) (pa_cons (pe_tup (pa_cons pe_int (pa_cons pe_int pa_nil))) (pa_cons (pe_tup (pa_cons pe_int (pa_cons pe_int pa_nil))) (pa_cons (pe_tup pa_nil) (pa_cons (pe_tup (pa_cons pe_int (pa_cons pe_int (pa_cons pe_int (pa_cons pe_int pa_nil))))) (pa_cons pe_str pa_nil))))))))
      (pss_cons (ps_set (i := 3) scFour.nd rfl (Or.inl rfl) (pe_lst (pa_cons pe_int (pa_cons pe_int (pa_cons pe_int (pa_cons pe_int (pa_cons (pe_un un_neg pe_int) (pa_cons (pe_op op_pow pe_int pe_int) (pa_cons pe_int pa_nil)))))))))
      (pss_cons (ps_set (i := 4) scFour.nd rfl (Or.inl rfl) (pe_lst (pa_cons (pe_ix ix_list (pv 1) (pe_call GT hr rfl cT.mg cT.kp cT.b .nil pass0 (pa_cons (pv 0) (pa_cons pe_int pa_nil))) (fun _ _ => rfl))
          (pa_cons (pe_ix ix_list (pv 3) (pe_call GT hr rfl cT.mg cT.kp cT.b .nil pass0 (pa_cons (pv 0) (pa_cons pe_int pa_nil))) (fun _ _ => rfl))
          (pa_cons (pe_ix ix_list (pv 3) (pe_call GT hr rfl cT.mg cT.kp cT.b .nil pass0 (pa_cons (pv 0) (pa_cons pe_int pa_nil))) (fun _ _ => rfl)) pa_nil)))))
      (pss_one (ps_ret (pe_op op_cat (pv 4) (pe_lst (pa_cons (pe_ix ix_list (pv 2) (pe_call GT hr rfl cT.mg cT.kp cT.b .nil pass0 (pa_cons (pv 0) (pa_cons pe_int pa_nil))) (fun _ _ => rfl)) pa_nil)))))))), fun B xs M Φ Ψ hB h => ?_⟩)
  · obtain ⟨g, x, c, rfl, _⟩ := h
    rfl
  · obtain ⟨g, x, c, rfl, rfl, k⟩ := h
    walk_at "alF"
    refine take_sent rfl (by decide) (by decide) fun r1 g1 x1 c1 h1 h1' => ?_
    obtain ⟨d1, m1, a1⟩ := atI_mem h1 h1' (l := Hs) rfl
    refine ar_ixL a1 ?_
    walk_at "alF"
    refine take_sent rfl (by decide) (by decide) fun r2 g2 x2 c2 h2 h2' => ?_
    obtain ⟨d2, m2, a2⟩ := atI_mem h2 h2' (l := Ns.map D.int) rfl
    obtain ⟨n2, mm2, rfl⟩ := List.mem_map.mp m2
    refine ar_ixL a2 ?_
    walk_at "alF"
    refine take_sent rfl (by decide) (by decide) fun r3 g3 x3 c3 h3 h3' => ?_
    obtain ⟨d3, m3, a3⟩ := atI_mem h3 h3' (l := Ns.map D.int) rfl
    obtain ⟨n3, mm3, rfl⟩ := List.mem_map.mp m3
    refine ar_ixL a3 ?_
    walk_at "alF"
    refine take_sent rfl (by decide) (by decide) fun r4 g4 x4 c4 h4 h4' => ?_
    obtain ⟨d4, m4, a4⟩ := atI_mem h4 h4' (l := Rs) rfl
    refine ar_ixL a4 ?_
    walk_at "alF"
    refine ar_cat (.lst _) (.lst _) (Nat.le_of_ble_eq_true rfl) ?_
    exact rt1 (l := []) (k _ _ _ _ m1 mm2 mm3 m4 _ _ _)
end
end K01

namespace Al
open PySem PyProof.Rows L2
/-- of all that is at hand (written by place, all defaults, the keyword defaults that lack, written by name) those at these places -/
def pick (ix : List Nat) {α : Type} (us ds mz ws : List α) : List α := ix.filterMap fun i => (us ++ ds ++ mz ++ ws)[i]?
theorem pick_vals (ix : List Nat) {vs us : List V} : ∀ {L : List V} {L' : List Value}, Vals L L' → Vals (ix.filterMap fun i => L[i]?) (ix.filterMap fun i => L'[i]?) := fun {L L'} h => by
  induction ix with
  | nil => exact .nil
  | cons i ix ih =>
    rw [List.filterMap_cons, List.filterMap_cons]
    cases e : L[i]? with
    | none =>
      rw [h.none_of e]
      exact ih
    | some x =>
      obtain ⟨u, hu, r⟩ := h.get e
      rw [hu]
      exact .cons r ih
theorem pick_rel (ix : List Nat) {vs ds mz zs : List V} {us its mv ws : List Value} (a : Vals vs us) (b : Vals ds its) (c : Vals mz mv) (d : Vals zs ws) : Vals (pick ix vs ds mz zs) (pick ix us its mv ws) :=
  pick_vals (vs := []) (us := []) ix (((a.append b).append c).append d)
theorem pick_ras {K : PySem.W.Frag} {W : Hp} {μ : List Addr} (ix : List Nat) : ∀ {L : List AV} {L' : List V}, RAs K W μ L L' → RAs K W μ (ix.filterMap fun i => L[i]?) (ix.filterMap fun i => L'[i]?) := fun {L L'} h => by
  induction ix with
  | nil => exact ras_nil
  | cons i ix ih =>
    rw [List.filterMap_cons, List.filterMap_cons]
    cases e : L[i]? with
    | none =>
      have : L'[i]? = none := by
        rw [List.getElem?_eq_none_iff, ← h.length]
        exact List.getElem?_eq_none_iff.mp e
      rw [this]
      exact ih
    | some x =>
      obtain ⟨u, hu, r⟩ := h.get e
      rw [hu]
      exact ras_cons r ih
section
variable {B : Base} {K : PySem.W.Frag} {σ : AEnv} {M : List MO} {Φ : AV → List MO → Prop} {C : Addr} {asp : ASp} {E : XK} {Ψ : Exc → List MO → Prop}
theorem ae_makeP {n m : Nat} {ix : List Nat} {dvs mvs : List V} {dA mA : List AV} {t tk : TA} (mono : Mono asp) (qe : EFits B K Ψ E) (hd : ∀ W μ, RAs K W μ dA dvs) (hm : ∀ W μ, RAs K W μ mA mvs)
    (h : AA B K t σ M fun xs M1 => AA B K tk σ M1 fun ys M2 => xs.length = n ∧ ys.length = m ∧ Sent asp (pick ix (.m M2.length :: xs) dA mA ys) (M2 ++ [.ins C [] []]) (MadeOk C M2.length Φ) Ψ) : AE B K (tMakeK C n m (conc K asp) (fun vs zs => pick ix vs dvs mvs zs) E t tk) σ M Φ :=
  ae_makeL mono qe fun W μ H τ o s e Q q => h W μ H τ o s e Q fun xs M' W' μ' H' v p f r => q xs M' W' μ' H' v (fun W2 μ2 H2 τ2 o2 s2 e2 Q2 q2 => p W2 μ2 H2 τ2 o2 s2 e2 Q2 fun ys M3 W3 μ3 H3 v3 ⟨l1, l2, p3⟩ f3 r3 => q2 ys M3 W3 μ3 H3 v3
    ⟨l1, l2, _, fun W μ v vs ws h1 h2 h3 => pick_ras ix (RAs.append (RAs.append (RAs.append (ras_cons h1 h2) (hd W μ)) (hm W μ)) h3), p3⟩ f3 r3) f r
end
end Al
namespace K01
open PySem PyProof.Rows L2 Al Ow
abbrev psI : List Str := ["self", "hears", "size", "first", "rule"]
/-- the keyword-only defaults: 2, 0, (0,) at T2 -/
abbrev kwI (T2 : Addr) : List (Str × V) := [("size", .int 2), ("first", .int 0), ("rule", .ref T2)]
section
variable {K : PySem.W.Frag} {f T1 T2 : Addr} {fd : FuncData}
abbrev FI (K : PySem.W.Frag) (T1 T2 f : Addr) (fd : FuncData) : Prop := FunD K "__init__" "Room.__init__" (defArgs sInit) (defBody sInit) (defScope sInit) [.ref T1] (kwI T2) f fd
abbrev KB (K : PySem.W.Frag) (fd : FuncData) (n : Nat) (ks : List Str) (ix : List Nat) (T1 : Addr) (mv : List V) : Prop := ∃ its mz : List Value, KBn K fd psI n ks (fun us ws => pick ix us its mz ws) (fun vs zs => pick ix vs [.ref T1] mv zs)
theorem kb1 (F : FI K T1 T2 f fd) : KB K fd 2 ["size", "first", "rule"] [0, 1, 3, 4, 5] T1 [] :=
  F.kbinds 2 ["size", "first", "rule"] [] (pick [0, 1, 3, 4, 5]) (by simp) (by simp) (by simp) (pick_rel _) fun T D doc pm an cdv ct us its mv ws h1 h2 h3 h4 =>
    match us, its, mv, ws, h1, h2, h3, h4 with
    | [_, _], [_], [], [_, _, _], _, _, _, _ => ⟨_, rfl, rfl⟩
theorem kb2 (F : FI K T1 T2 f fd) : KB K fd 1 ["rule", "first", "hears", "size"] [0, 4, 5, 3, 2] T1 [] :=
  F.kbinds 1 ["rule", "first", "hears", "size"] [] (pick [0, 4, 5, 3, 2]) (by simp) (by simp) (by simp) (pick_rel _) fun T D doc pm an cdv ct us its mv ws h1 h2 h3 h4 =>
    match us, its, mv, ws, h1, h2, h3, h4 with
    | [_], [_], [], [_, _, _, _], _, _, _, _ => ⟨_, rfl, rfl⟩
theorem kb3 (F : FI K T1 T2 f fd) : KB K fd 1 ["first", "size", "rule", "hears"] [0, 5, 3, 2, 4] T1 [] :=
  F.kbinds 1 ["first", "size", "rule", "hears"] [] (pick [0, 5, 3, 2, 4]) (by simp) (by simp) (by simp) (pick_rel _) fun T D doc pm an cdv ct us its mv ws h1 h2 h3 h4 =>
    match us, its, mv, ws, h1, h2, h3, h4 with
    | [_], [_], [], [_, _, _, _], _, _, _, _ => ⟨_, rfl, rfl⟩
theorem kb4 (F : FI K T1 T2 f fd) : KB K fd 2 ["rule", "size", "first"] [0, 1, 4, 5, 3] T1 [] :=
  F.kbinds 2 ["rule", "size", "first"] [] (pick [0, 1, 4, 5, 3]) (by simp) (by simp) (by simp) (pick_rel _) fun T D doc pm an cdv ct us its mv ws h1 h2 h3 h4 =>
    match us, its, mv, ws, h1, h2, h3, h4 with
    | [_, _], [_], [], [_, _, _], _, _, _, _ => ⟨_, rfl, rfl⟩
theorem kb6 (F : FI K T1 T2 f fd) : KB K fd 2 ["first"] [0, 1, 3, 5, 4] T1 [.int 2, .ref T2] :=
  F.kbinds 2 ["first"] [("size", .int 2), ("rule", .ref T2)] (pick [0, 1, 3, 5, 4]) (by simp) (by simp) (by simp) (pick_rel _) fun T D doc pm an cdv ct us its mv ws h1 h2 h3 h4 =>
    match us, its, mv, ws, h1, h2, h3, h4 with
    | [_, _], [_], [_, _], [_], _, _, _, _ => ⟨_, rfl, _, _, _, _, _, _, rfl, rfl, _, _, _, _, _, _, rfl, rfl, rfl⟩
theorem kb7 (F : FI K T1 T2 f fd) : KB K fd 1 ["size"] [0, 1, 4, 2, 3] T1 [.int 0, .ref T2] :=
  F.kbinds 1 ["size"] [("first", .int 0), ("rule", .ref T2)] (pick [0, 1, 4, 2, 3]) (by simp) (by simp) (by simp) (pick_rel _) fun T D doc pm an cdv ct us its mv ws h1 h2 h3 h4 =>
    match us, its, mv, ws, h1, h2, h3, h4 with
    | [_], [_], [_, _], [_], _, _, _, _ => ⟨_, rfl, _, _, _, _, _, _, rfl, rfl, _, _, _, _, _, _, rfl, rfl, rfl⟩
theorem kb8 (F : FI K T1 T2 f fd) : KB K fd 1 ["rule"] [0, 1, 2, 3, 4] T1 [.int 2, .int 0] :=
  F.kbinds 1 ["rule"] [("size", .int 2), ("first", .int 0)] (pick [0, 1, 2, 3, 4]) (by simp) (by simp) (by simp) (pick_rel _) fun T D doc pm an cdv ct us its mv ws h1 h2 h3 h4 =>
    match us, its, mv, ws, h1, h2, h3, h4 with
    | [_], [_], [_, _], [_], _, _, _, _ => ⟨_, rfl, _, _, _, _, _, _, rfl, rfl, _, _, _, _, _, _, rfl, rfl, rfl⟩
theorem kb9 (F : FI K T1 T2 f fd) : KB K fd 2 ["rule"] [0, 1, 3, 4, 5] T1 [.int 2, .int 0] :=
  F.kbinds 2 ["rule"] [("size", .int 2), ("first", .int 0)] (pick [0, 1, 3, 4, 5]) (by simp) (by simp) (by simp) (pick_rel _) fun T D doc pm an cdv ct us its mv ws h1 h2 h3 h4 =>
    match us, its, mv, ws, h1, h2, h3, h4 with
    | [_, _], [_], [_, _], [_], _, _, _, _ => ⟨_, rfl, _, _, _, _, _, _, rfl, rfl, _, _, _, _, _, _, rfl, rfl, rfl⟩
theorem kb0 (F : FI K T1 T2 f fd) : ∃ ds, Vals [.ref T1, .int 2, .int 0, .ref T2] ds ∧ Binds K fd psI ds :=
  F.binds 1 0 (by simp) rfl (fun T D doc pm an cdv ct us its ks h1 h2 h3 =>
    match us, its, ks, h1, h2, h3 with
    | [_], [_], [_, _, _], _, _, _ => ⟨_, rfl, _, _, _, _, _, _, rfl, rfl, _, _, _, _, _, _, rfl, rfl, _, _, _, _, _, _, rfl, rfl, rfl⟩) (by simp)
end
end K01

namespace K01
open PySem PyProof.Rows L2 Al Ow
abbrev sLeft : Stmt := top 8
theorem scLeft : FnScope [] [] (defScope sLeft) := ⟨rfl, rfl, rfl, by decide +kernel, rfl, by decide +kernel, by decide +kernel⟩
/-- how Room(..) is made: its class, its __init__, the defaults -/
structure RoomM (K : PySem.W.Frag) (C T1 T2 fI : Addr) (fdI : FuncData) : Prop where
  mk_ : Mk K C fI
  fi : FI K T1 T2 fI fdI
  t1 : ∀ W, RD K W (.tup []) (.ref T1)
  t2 : ∀ W, RD K W (.tup [.int 0]) (.ref T2)
def aMade (C : Addr) : ASp := fun xs M Φ _ => ∃ (x : AV) (h s f r : D) (kind : Int), xs = [x, .d (.int kind)] ∧ ((x = .d (.lst [h, s, f, r]) ∧ M = []) ∨ (x = .m 0 ∧ M = [.lst [h, s, f, r]])) ∧ Φ (.d (RM C h s f r)) M
theorem mono_made {C : Addr} : Mono (aMade C) := fun xs M Φ Φ' Ψ Ψ' h1 _ ⟨x, h, s, f, r, k, e1, e2, p⟩ => ⟨x, h, s, f, r, k, e1, e2, h1 _ _ p⟩
def aLeft : ASp := fun xs M Φ _ => xs = [] ∧ M = [] ∧ Φ (.d (.bl true)) []
theorem mono_left : Mono aLeft := fun xs M Φ Φ' Ψ Ψ' h1 _ ⟨e1, e2, p⟩ => ⟨e1, e2, h1 _ _ p⟩
local macro_rules | `(tactic| walk_at "alside") => `(tactic| first
  | decide
  | (dsimp only; decide)
  | exact Or.inr (by decide)
  | exact Or.inl (by decide)
  | (dsimp only; omega)
  | (unfold CDiv; omega)
  | (unfold CPow; omega)
  | (unfold CMul; omega)
  | assumption)
local macro_rules | `(tactic| walk_at "al1") => `(tactic| first
  | with_reducible refine as_asg ?_
  | with_reducible refine as_drop ?_
  | with_reducible refine as_ret ?_
  | with_reducible refine as_if ?_
  | with_reducible refine as_next ?_
  | with_reducible refine at_test ?_
  | with_reducible refine at_b ?_
  | with_reducible refine at_and ?_
  | with_reducible refine at_or ?_
  | with_reducible refine at_not ?_
  | with_reducible refine ae_op ?_
  | with_reducible refine ae_un ?_
  | with_reducible refine ae_cb ?_
  | with_reducible refine ae_if ?_
  | with_reducible refine ae_andV ?_
  | with_reducible refine ae_orV ?_
  | with_reducible refine ae_notV ?_
  | with_reducible refine ae_chain ?_
  | with_reducible refine ae_int ?_
  | with_reducible refine ae_bl ?_
  | with_reducible refine ae_non ?_
  | with_reducible refine ae_str ?_
  | with_reducible refine ae_ty ?_
  | with_reducible refine ae_adr ?_
  | with_reducible refine aa_nil ?_
  | with_reducible refine aa_cons ?_
  | with_reducible refine ag_name ?_
  | with_reducible refine ag_sub ?_
  | with_reducible refine at_yes ?_
  | ((with_reducible show AE _ _ (tVar _) _ _ _); refine ae_var rfl ?_)
  | ((with_reducible show AR _ _ (rI0 _) _ _ _ _); first | with_reducible refine ar_i0 ?_ | with_reducible refine ar_b0 ?_)
  | ((with_reducible show AU _ _ (rU _) _ _ _); with_reducible refine au_i ?_)
  | ((with_reducible show AR _ _ (rI _ _) _ _ _ _); refine ar_i (by walk_at "alside") ?_)
  | ((with_reducible show AR _ _ (rIxL _) _ _ _ _); first | refine ar_ixM rfl rfl ?_ | refine ar_ixL rfl ?_ | refine ar_ixS rfl ?_)
  | ((with_reducible show AR _ _ (rIxT _) _ _ _ _); refine ar_ixT rfl ?_)
  | ((with_reducible show AR _ _ rEq _ _ _ _); first | with_reducible refine ar_eqI ?_ | with_reducible refine ar_eqS ?_ | with_reducible refine ar_eqB ?_)
  | ((with_reducible show AR _ _ rNe _ _ _ _); first | with_reducible refine ar_neI ?_ | with_reducible refine ar_neS ?_ | with_reducible refine ar_neB ?_))
local macro_rules | `(tactic| walk_at "alds") => `(tactic| first
  | refine ⟨[], rfl, Nat.le_of_ble_eq_true rfl, ?_⟩
  | refine ⟨[_], rfl, Nat.le_of_ble_eq_true rfl, ?_⟩
  | refine ⟨[_, _], rfl, Nat.le_of_ble_eq_true rfl, ?_⟩
  | refine ⟨[_, _, _], rfl, Nat.le_of_ble_eq_true rfl, ?_⟩
  | refine ⟨[_, _, _, _], rfl, Nat.le_of_ble_eq_true rfl, ?_⟩
  | refine ⟨[_, _, _, _, _], rfl, Nat.le_of_ble_eq_true rfl, ?_⟩
  | refine ⟨[_, _, _, _, _, _], rfl, Nat.le_of_ble_eq_true rfl, ?_⟩
  | refine ⟨[_, _, _, _, _, _, _], rfl, Nat.le_of_ble_eq_true rfl, ?_⟩
  | refine ⟨[_, _, _, _, _, _, _, _], rfl, Nat.le_of_ble_eq_true rfl, ?_⟩
  | refine ⟨[_, _, _, _, _, _, _, _, _], rfl, Nat.le_of_ble_eq_true rfl, ?_⟩
  | refine ⟨[_, _, _, _, _, _, _, _, _, _], rfl, Nat.le_of_ble_eq_true rfl, ?_⟩
  | refine ⟨[_, _, _, _, _, _, _, _, _, _, _], rfl, Nat.le_of_ble_eq_true rfl, ?_⟩
  | refine ⟨[_, _, _, _, _, _, _, _, _, _, _, _], rfl, Nat.le_of_ble_eq_true rfl, ?_⟩)
local macro_rules | `(tactic| walk_at "alc") => `(tactic| refine ae_call0 (Ψ := fun _ _ => False) (by walk_at "almono") efits_none ?_)
local macro_rules | `(tactic| walk_at "al") => `(tactic| repeat (first | walk_at "al1" | with_reducible refine as_seq ?_ | with_reducible refine ae_tup ?_ | with_reducible walk_at "alc" | refine ⟨_, rfl, ?_⟩ | walk_at "alds" | refine ⟨_, _, _, _, _, rfl, rfl, rfl, rfl, rfl, ?_⟩))
local macro_rules | `(tactic| walk_at "alF") => `(tactic| repeat (first | walk_at "al1" | with_reducible refine as_seq ?_ | with_reducible refine ae_tup ?_ | with_reducible refine ae_lst ?_ | with_reducible walk_at "alc" | refine ⟨_, rfl, ?_⟩ | walk_at "alds" | refine ⟨_, _, _, _, _, rfl, rfl, rfl, rfl, rfl, ?_⟩))
local macro_rules | `(tactic| walk_at "alo") => `(tactic| repeat (first | walk_at "al1" | with_reducible refine ae_tup ?_ | with_reducible walk_at "alc" | refine ⟨_, rfl, ?_⟩ | walk_at "alds" | refine ⟨_, _, _, _, _, rfl, rfl, rfl, rfl, rfl, ?_⟩))
local macro_rules | `(tactic| walk_at "almono") => `(tactic| first | exact mono_take | exact mono_init | exact mono_told | exact mono_made)
theorem make_sent {C : Addr} {M : List MO} {Φ : AV → List MO → Prop} {Ψ : Exc → List MO → Prop} {h s f r : D} (hM : ∀ o ∈ M, o.below M.length = true) (k : Φ (.d (RM C h s f r)) M) : Sent (aInit C) (.m M.length :: [AV.d h, .d s, .d f, .d r]) (M ++ [.ins C [] []]) (MadeOk C M.length Φ) Ψ :=
  sentI (ys := [h, s, f, r]) mono_init hM ⟨h, s, f, r, rfl, rfl, rfl, nms, [h, s, f, r], rfl, k⟩
section
variable {P : Program} {w : World} {K : PySem.W.Frag} {mg : Str → Option Value} {base : Heap} {C : Addr}
theorem ok_made {f fI T1 T2 : Addr} {fd fdI : FuncData} (F : Fun K "_law_made" "_law_made" sMade f fd) (T : RoomT K mg C) (R : RoomM K C T1 T2 fI fdI) : FnOk P w K mg base CX0 3 f fd ["_law_four_here", "_law_kind"] (conc K (aMade C)) := by
  have GI : FnOk P w K mg base CX0 1 fI fdI psI (conc K (aInit C)) := ok_init R.fi T
  obtain ⟨i1, m1, b1⟩ := kb1 R.fi
  obtain ⟨i2, m2, b2⟩ := kb2 R.fi
  obtain ⟨i3, m3, b3⟩ := kb3 R.fi
  obtain ⟨i4, m4, b4⟩ := kb4 R.fi
  refine fn_al F scMade (fun xs M Φ Ψ h => ?_) (fun cdv A outer s H E hr => ⟨_, pss_cons (ps_asg (pv 0) (pg_lst rfl (pgs_cons (pg_name (i := 2) scMade.nd rfl (Or.inl rfl)) (pgs_cons (pg_name (i := 3) scMade.nd rfl (Or.inl rfl)) (pgs_cons (pg_name (i := 4) scMade.nd rfl (Or.inl rfl)) (pgs_cons (pg_name (i := 5) scMade.nd rfl (Or.inl rfl)) pgs_nil))))))
      (pss_cons (ps_if (pt_cmpR op_eq (pv 1) pe_int (nomark _)) (pss_one (ps_ret (pe_makeK R.mk_ GI hr rfl T.mgC b1 pass0 (pa_cons (pv 2) pa_nil) (pk_cons (pv 3) (pk_cons (pv 4) (pk_cons (pv 5) pk_nil)))))) pss_nil)
      (pss_cons (ps_if (pt_cmpR op_eq (pv 1) pe_int (nomark _)) (pss_one (ps_ret (pe_makeK0 R.mk_ GI hr rfl T.mgC b2 pass0 (pk_cons (pv 5) (pk_cons (pv 4) (pk_cons (pv 2) (pk_cons (pv 3) pk_nil))))))) pss_nil)
      (pss_cons (ps_if (pt_cmpR op_eq (pv 1) pe_int (nomark _)) (pss_one (ps_ret (pe_makeK0 R.mk_ GI hr rfl T.mgC b3 pass0 (pk_cons (pv 4) (pk_cons (pv 3) (pk_cons (pv 5) (pk_cons (pv 2) pk_nil))))))) pss_nil)
      (pss_one (ps_ret (pe_makeK R.mk_ GI hr rfl T.mgC b4 pass0 (pa_cons (pv 2) pa_nil) (pk_cons (pv 5) (pk_cons (pv 3) (pk_cons (pv 4) pk_nil))))))))), fun B xs M Φ Ψ hB h => ?_⟩)
  · obtain ⟨x, h, s, f, r, k, rfl, _⟩ := h
    rfl
  · obtain ⟨x, h, s, f, r, kind, rfl, e, k⟩ := h
    have dT : ∀ W μ, RAs K W μ [.d (.tup [])] [.ref T1] := fun W μ => ras_cons (x := .d (.tup [])) (R.t1 W) ras_nil
    have dN : ∀ W μ, RAs K W μ [] [] := fun W μ => ras_nil
    have hM : ∀ o ∈ M, o.below M.length = true := by rcases e with ⟨_, rfl⟩ | ⟨_, rfl⟩ <;> simp [MO.below]
    have fin : RT M.length Φ (.d (RM C h s f r)) M := ⟨M.length, _, Nat.le_refl _, .dat, by rw [List.take_length]; exact hM, by rw [List.take_length]; exact k⟩
    refine as_cut (fun σ' M' => σ' = [some x, some (.d (.int kind)), some (.d h), some (.d s), some (.d f), some (.d r)] ∧ M' = M) (as_asg (ae_var rfl ?_)) ?_
    · rcases e with ⟨rfl, rfl⟩ | ⟨rfl, rfl⟩
      · exact ag_lst rfl (ags_cons (ag_name (ags_cons (ag_name (ags_cons (ag_name (ags_cons (ag_name (ags_nil ⟨rfl, rfl⟩)))))))))
      · exact ag_lstM (k := 0) rfl rfl (ags_cons (ag_name (ags_cons (ag_name (ags_cons (ag_name (ags_cons (ag_name (ags_nil ⟨rfl, rfl⟩)))))))))
    · rintro σ' M' ⟨rfl, rfl⟩
      walk_at "al"
      refine ⟨fun h0 => ?_, fun h0 => ?_⟩
      · walk_at "al"
        refine ae_makeP (Ψ := fun _ _ => False) mono_init efits_none dT dN ?_
        walk_at "al"
        exact ⟨rfl, rfl, make_sent hM fin⟩
      walk_at "al"
      refine ⟨fun h0 => ?_, fun h0 => ?_⟩
      · walk_at "al"
        refine ae_makeP (Ψ := fun _ _ => False) mono_init efits_none dT dN ?_
        walk_at "al"
        exact ⟨rfl, rfl, make_sent hM fin⟩
      walk_at "al"
      refine ⟨fun h0 => ?_, fun h0 => ?_⟩
      · walk_at "al"
        refine ae_makeP (Ψ := fun _ _ => False) mono_init efits_none dT dN ?_
        walk_at "al"
        exact ⟨rfl, rfl, make_sent hM fin⟩
      walk_at "al"
      refine ae_makeP (Ψ := fun _ _ => False) mono_init efits_none dT dN ?_
      walk_at "al"
      exact ⟨rfl, rfl, make_sent hM fin⟩
end
end K01

namespace K01
open PySem PyProof.Rows L2 Al Ow
local macro_rules | `(tactic| walk_at "alside") => `(tactic| first
  | decide
  | (dsimp only; decide)
  | exact Or.inr (by decide)
  | exact Or.inl (by decide)
  | (dsimp only; omega)
  | (unfold CDiv; omega)
  | (unfold CPow; omega)
  | (unfold CMul; omega)
  | assumption)
local macro_rules | `(tactic| walk_at "al1") => `(tactic| first
  | with_reducible refine as_asg ?_
  | with_reducible refine as_drop ?_
  | with_reducible refine as_ret ?_
  | with_reducible refine as_if ?_
  | with_reducible refine as_next ?_
  | with_reducible refine at_test ?_
  | with_reducible refine at_b ?_
  | with_reducible refine at_and ?_
  | with_reducible refine at_or ?_
  | with_reducible refine at_not ?_
  | with_reducible refine ae_op ?_
  | with_reducible refine ae_un ?_
  | with_reducible refine ae_cb ?_
  | with_reducible refine ae_if ?_
  | with_reducible refine ae_andV ?_
  | with_reducible refine ae_orV ?_
  | with_reducible refine ae_notV ?_
  | with_reducible refine ae_chain ?_
  | with_reducible refine ae_int ?_
  | with_reducible refine ae_bl ?_
  | with_reducible refine ae_non ?_
  | with_reducible refine ae_str ?_
  | with_reducible refine ae_ty ?_
  | with_reducible refine ae_adr ?_
  | with_reducible refine aa_nil ?_
  | with_reducible refine aa_cons ?_
  | with_reducible refine ag_name ?_
  | with_reducible refine ag_sub ?_
  | with_reducible refine at_yes ?_
  | ((with_reducible show AE _ _ (tVar _) _ _ _); refine ae_var rfl ?_)
  | ((with_reducible show AR _ _ (rI0 _) _ _ _ _); first | with_reducible refine ar_i0 ?_ | with_reducible refine ar_b0 ?_)
  | ((with_reducible show AU _ _ (rU _) _ _ _); with_reducible refine au_i ?_)
  | ((with_reducible show AR _ _ (rI _ _) _ _ _ _); refine ar_i (by walk_at "alside") ?_)
  | ((with_reducible show AR _ _ (rIxL _) _ _ _ _); first | refine ar_ixM rfl rfl ?_ | refine ar_ixL rfl ?_ | refine ar_ixS rfl ?_)
  | ((with_reducible show AR _ _ (rIxT _) _ _ _ _); refine ar_ixT rfl ?_)
  | ((with_reducible show AR _ _ rEq _ _ _ _); first | with_reducible refine ar_eqI ?_ | with_reducible refine ar_eqS ?_ | with_reducible refine ar_eqB ?_)
  | ((with_reducible show AR _ _ rNe _ _ _ _); first | with_reducible refine ar_neI ?_ | with_reducible refine ar_neS ?_ | with_reducible refine ar_neB ?_))
local macro_rules | `(tactic| walk_at "alds") => `(tactic| first
  | refine ⟨[], rfl, Nat.le_of_ble_eq_true rfl, ?_⟩
  | refine ⟨[_], rfl, Nat.le_of_ble_eq_true rfl, ?_⟩
  | refine ⟨[_, _], rfl, Nat.le_of_ble_eq_true rfl, ?_⟩
  | refine ⟨[_, _, _], rfl, Nat.le_of_ble_eq_true rfl, ?_⟩
  | refine ⟨[_, _, _, _], rfl, Nat.le_of_ble_eq_true rfl, ?_⟩
  | refine ⟨[_, _, _, _, _], rfl, Nat.le_of_ble_eq_true rfl, ?_⟩
  | refine ⟨[_, _, _, _, _, _], rfl, Nat.le_of_ble_eq_true rfl, ?_⟩
  | refine ⟨[_, _, _, _, _, _, _], rfl, Nat.le_of_ble_eq_true rfl, ?_⟩
  | refine ⟨[_, _, _, _, _, _, _, _], rfl, Nat.le_of_ble_eq_true rfl, ?_⟩
  | refine ⟨[_, _, _, _, _, _, _, _, _], rfl, Nat.le_of_ble_eq_true rfl, ?_⟩
  | refine ⟨[_, _, _, _, _, _, _, _, _, _], rfl, Nat.le_of_ble_eq_true rfl, ?_⟩
  | refine ⟨[_, _, _, _, _, _, _, _, _, _, _], rfl, Nat.le_of_ble_eq_true rfl, ?_⟩
  | refine ⟨[_, _, _, _, _, _, _, _, _, _, _, _], rfl, Nat.le_of_ble_eq_true rfl, ?_⟩)
local macro_rules | `(tactic| walk_at "alc") => `(tactic| refine ae_call0 (Ψ := fun _ _ => False) (by walk_at "almono") efits_none ?_)
local macro_rules | `(tactic| walk_at "al") => `(tactic| repeat (first | walk_at "al1" | with_reducible refine as_seq ?_ | with_reducible refine ae_tup ?_ | with_reducible walk_at "alc" | refine ⟨_, rfl, ?_⟩ | walk_at "alds" | refine ⟨_, _, _, _, _, rfl, rfl, rfl, rfl, rfl, ?_⟩))
local macro_rules | `(tactic| walk_at "alF") => `(tactic| repeat (first | walk_at "al1" | with_reducible refine as_seq ?_ | with_reducible refine ae_tup ?_ | with_reducible refine ae_lst ?_ | with_reducible walk_at "alc" | refine ⟨_, rfl, ?_⟩ | walk_at "alds" | refine ⟨_, _, _, _, _, rfl, rfl, rfl, rfl, rfl, ?_⟩))
local macro_rules | `(tactic| walk_at "alo") => `(tactic| repeat (first | walk_at "al1" | with_reducible refine ae_tup ?_ | with_reducible walk_at "alc" | refine ⟨_, rfl, ?_⟩ | walk_at "alds" | refine ⟨_, _, _, _, _, rfl, rfl, rfl, rfl, rfl, ?_⟩))
local macro_rules | `(tactic| walk_at "almono") => `(tactic| first | exact mono_take | exact mono_init | exact mono_told | exact mono_made)
/-- the methods of Room, and told -/
structure RoomX (K : PySem.W.Frag) (mg : Str → Option Value) (C fE fA fL fR fT : Addr) (fdE fdA fdL fdR fdT : FuncData) : Prop where
  mE : OwnM K C "__eq__" fE
  mL : OwnM K C "__len__" fL
  mR : OwnM K C "__repr__" fR
  mA : Meth K C "all_four" fA
  ne : PySem.W.findIn K (.ref C) "__ne__" = some (some (.builtin "object.__ne__"))
  bE : Binds K fdE ["self", "other"] []
  bA : Binds K fdA ["self"] []
  bL : Binds K fdL ["self"] []
  bR : Binds K fdR ["self"] []
  FE : Fun K "__eq__" "Room.__eq__" sEq fE fdE
  FA : Fun K "all_four" "Room.all_four" sAll fA fdA
  FL : Fun K "__len__" "Room.__len__" sLen fL fdL
  FR : Fun K "__repr__" "Room.__repr__" sRepr fR fdR
  FT : Fun K "_law_told" "_law_told" sTold fT fdT
  cT : Cal K mg "_law_told" ["_law_room"] fT fdT
theorem eq_sent {C : Addr} {M : List MO} {Φ : AV → List MO → Prop} {Ψ : Exc → List MO → Prop} {h s f r d : D} (g : Good [h, s, f, r]) (o : OkD C d) (k : Φ (.d (.bl (eqRoom (RM C h s f r) d))) M) : Sent (aEq C) [.d (RM C h s f r), .d d] M Φ Ψ :=
  sent0 (ys := [RM C h s f r, d]) mono_eq ⟨h, s, f, r, d, rfl, rfl, g, o, rfl, _, rfl, k⟩
theorem told_sent {C : Addr} {M : List MO} {Φ : AV → List MO → Prop} {Ψ : Exc → List MO → Prop} {h s f r : D} (k : Φ (.d (.lst [h, s, f, r])) M) : Sent (aTold C) [.d (RM C h s f r)] M Φ Ψ :=
  sent0 (ys := [RM C h s f r]) mono_told ⟨h, s, f, r, rfl, rfl, rfl, _, rfl, k⟩
theorem eqv_self {l : List D} (g : Good l) : PyData.eqv (.list (toPs l)) (.list (toPs l)) = true := SeqAt.eqv_refl _ (SeqAt.canLay_of_shaped g.2)
section
variable {P : Program} {w : World} {K : PySem.W.Frag} {mg : Str → Option Value} {base : Heap} {C : Addr}
theorem ok_left {f fI T1 T2 fE fA fL fR fT : Addr} {fd fdI fdE fdA fdL fdR fdT : FuncData} (F : Fun K "_law_some_left_out" "_law_some_left_out" sLeft f fd) (T : RoomT K mg C) (R : RoomM K C T1 T2 fI fdI) (X : RoomX K mg C fE fA fL fR fT fdE fdA fdL fdR fdT) : FnOk P w K mg base CX0 4 f fd [] (conc K aLeft) := by
  have GI : FnOk P w K mg base CX0 1 fI fdI psI (conc K (aInit C)) := ok_init R.fi T
  have GT : FnOk P w K mg base CX0 1 fT fdT ["_law_room"] (conc K (aTold C)) := ok_told X.FT T
  have GE : FnOk P w K mg base CX0 2 fE fdE ["self", "other"] (conc K (aEq C)) := ok_eq X.FE T X.FA X.bA X.mA
  obtain ⟨i6, m6, b6⟩ := kb6 R.fi
  obtain ⟨i7, m7, b7⟩ := kb7 R.fi
  obtain ⟨i8, m8, b8⟩ := kb8 R.fi
  obtain ⟨i9, m9, b9⟩ := kb9 R.fi
  obtain ⟨ds0, v0, b0⟩ := kb0 R.fi
  refine fn_al F scLeft (fun xs M Φ Ψ h => ?_) (fun cdv A outer s H E hr => ⟨_, pss_cons (ps_if (PW.pt (pw_or (pt_cmpR (op_neD hr.units) (pe_call GT (hr.mono (by decide)) rfl X.cT.mg X.cT.kp X.cT.b .nil pass0 (pa_cons (pe_make0 R.mk_ GI (hr.mono (by decide)) rfl T.mgC b0 v0 pass0) pa_nil)) (pe_lst (pa_cons (pe_tup pa_nil) (pa_cons pe_int (pa_cons pe_int (pa_cons (pe_tup (pa_cons pe_int pa_nil)) pa_nil))))) (nomark _))
          (pw_or1 (pt_cmpR (op_neD hr.units) (pe_call GT (hr.mono (by decide)) rfl X.cT.mg X.cT.kp X.cT.b .nil pass0 (pa_cons (pe_makeK R.mk_ GI (hr.mono (by decide)) rfl T.mgC b6 pass0 (pa_cons (pe_tup (pa_cons pe_int pa_nil)) pa_nil) (pk_cons pe_int pk_nil)) pa_nil)) (pe_lst (pa_cons (pe_tup (pa_cons pe_int pa_nil)) (pa_cons pe_int (pa_cons pe_int (pa_cons (pe_tup (pa_cons pe_int pa_nil)) pa_nil))))) (nomark _))))) (pss_one (ps_ret pe_bl)) pss_nil)
        (pss_cons (ps_if (PW.pt (pw_or (pt_cmpR (op_neD hr.units) (pe_call GT (hr.mono (by decide)) rfl X.cT.mg X.cT.kp X.cT.b .nil pass0 (pa_cons (pe_makeK0 R.mk_ GI (hr.mono (by decide)) rfl T.mgC b7 pass0 (pk_cons pe_int pk_nil)) pa_nil)) (pe_lst (pa_cons (pe_tup pa_nil) (pa_cons pe_int (pa_cons pe_int (pa_cons (pe_tup (pa_cons pe_int pa_nil)) pa_nil))))) (nomark _))
          (pw_or1 (pt_cmpR (op_neD hr.units) (pe_call GT (hr.mono (by decide)) rfl X.cT.mg X.cT.kp X.cT.b .nil pass0 (pa_cons (pe_makeK0 R.mk_ GI (hr.mono (by decide)) rfl T.mgC b8 pass0 (pk_cons (pe_tup (pa_cons pe_int (pa_cons pe_int pa_nil))) pk_nil)) pa_nil)) (pe_lst (pa_cons (pe_tup pa_nil) (pa_cons pe_int (pa_cons pe_int (pa_cons (pe_tup (pa_cons pe_int (pa_cons pe_int pa_nil))) pa_nil))))) (nomark _))))) (pss_one (ps_ret pe_bl)) pss_nil)
        (pss_one (ps_ret (pe_and (pe_cmpR (op_eqO X.mE GE X.bE (hr.mono (by decide)) pass0) (pe_make0 R.mk_ GI (hr.mono (by decide)) rfl T.mgC b0 v0 pass0) (pe_makeK R.mk_ GI (hr.mono (by decide)) rfl T.mgC b9 pass0 (pa_cons (pe_tup pa_nil) pa_nil) (pk_cons (pe_tup (pa_cons pe_int pa_nil)) pk_nil)) (nomark _))
          (pe_one (pe_cmpR (op_neO X.mE X.ne T.ins.hm GE X.bE (hr.mono (by decide)) pass0) (pe_make0 R.mk_ GI (hr.mono (by decide)) rfl T.mgC b0 v0 pass0) (pe_makeK0 R.mk_ GI (hr.mono (by decide)) rfl T.mgC b7 pass0 (pk_cons pe_int pk_nil)) (nomark _))))))), fun B xs M Φ Ψ hB h => ?_⟩)
  · obtain ⟨rfl, _⟩ := h
    rfl
  · obtain ⟨rfl, rfl, k⟩ := h
    have dT : ∀ W μ, RAs K W μ [.d (.tup [])] [.ref T1] := fun W μ => ras_cons (x := .d (.tup [])) (R.t1 W) ras_nil
    have d0 : ∀ W μ, RAs K W μ [.d (.tup []), .d (.int 2), .d (.int 0), .d (.tup [.int 0])] [.ref T1, .int 2, .int 0, .ref T2] := fun W μ => ras_cons (x := .d (.tup [])) (R.t1 W) (ras_cons (x := .d (.int 2)) rfl (ras_cons (x := .d (.int 0)) rfl (ras_cons (x := .d (.tup [.int 0])) (R.t2 W) ras_nil)))
    have d6 : ∀ W μ, RAs K W μ [.d (.int 2), .d (.tup [.int 0])] [.int 2, .ref T2] := fun W μ => ras_cons (x := .d (.int 2)) rfl (ras_cons (x := .d (.tup [.int 0])) (R.t2 W) ras_nil)
    have d7 : ∀ W μ, RAs K W μ [.d (.int 0), .d (.tup [.int 0])] [.int 0, .ref T2] := fun W μ => ras_cons (x := .d (.int 0)) rfl (ras_cons (x := .d (.tup [.int 0])) (R.t2 W) ras_nil)
    have d8 : ∀ W μ, RAs K W μ [.d (.int 2), .d (.int 0)] [.int 2, .int 0] := fun W μ => ras_cons (x := .d (.int 2)) rfl (ras_cons (x := .d (.int 0)) rfl ras_nil)
    have mk0 : ∀ {σ : AEnv} {Φ : AV → List MO → Prop}, Φ (.d (RM C (.tup []) (.int 2) (.int 0) (.tup [.int 0]))) [] → AE B K (tMake C (conc K (aInit C)) [.ref T1, .int 2, .int 0, .ref T2] E0 tNil) σ [] Φ := fun p =>
      ae_make (Ψ := fun _ _ => False) mono_init efits_none d0 (aa_nil (make_sent (by simp) p))
    walk_at "alF"
    refine mk0 ?_
    walk_at "alF"
    refine told_sent ?_
    walk_at "alF"
    refine ar_neD (.d rfl) (.d rfl) (by decide +kernel) (by decide +kernel) ?_
    walk_at "alF"
    refine ⟨fun z => absurd z (by decide +kernel), fun _ => ?_⟩
    walk_at "alF"
    refine ae_makeP (Ψ := fun _ _ => False) mono_init efits_none dT d6 ?_
    walk_at "alF"
    refine ⟨rfl, rfl, make_sent (by simp) ?_⟩
    walk_at "alF"
    refine told_sent ?_
    walk_at "alF"
    refine ar_neD (.d rfl) (.d rfl) (by decide +kernel) (by decide +kernel) ?_
    walk_at "alF"
    refine ⟨fun z => absurd z (by decide +kernel), fun _ => ?_⟩
    walk_at "alF"
    refine ae_makeP (Ψ := fun _ _ => False) mono_init efits_none dT d7 ?_
    walk_at "alF"
    refine ⟨rfl, rfl, make_sent (by simp) ?_⟩
    walk_at "alF"
    refine told_sent ?_
    walk_at "alF"
    refine ar_neD (.d rfl) (.d rfl) (by decide +kernel) (by decide +kernel) ?_
    walk_at "alF"
    refine ⟨fun z => absurd z (by decide +kernel), fun _ => ?_⟩
    walk_at "alF"
    refine ae_makeP (Ψ := fun _ _ => False) mono_init efits_none dT d8 ?_
    walk_at "alF"
    refine ⟨rfl, rfl, make_sent (by simp) ?_⟩
    walk_at "alF"
    refine told_sent ?_
    walk_at "alF"
    refine ar_neD (.d rfl) (.d rfl) (by decide +kernel) (by decide +kernel) ?_
    walk_at "alF"
    refine ⟨fun z => absurd z (by decide +kernel), fun _ => ?_⟩
    walk_at "alF"
    refine mk0 ?_
    refine ae_makeP (Ψ := fun _ _ => False) mono_init efits_none dT d8 ?_
    walk_at "alF"
    refine ⟨rfl, rfl, make_sent (by simp) ?_⟩
    refine ar_eqO (Ψ := fun _ _ => False) mono_eq efits_none T.ins T.own.self (eq_sent ⟨rfl, by decide +kernel⟩ (.inl ⟨_, _, _, _, rfl, rfl, by decide +kernel⟩) ?_)
    walk_at "alF"
    refine ⟨fun _ => ?_, fun z => absurd z (by show ¬ (PyData.eqv (.list (toPs [D.tup [], .int 2, .int 0, .tup [.int 0]])) (.list (toPs [D.tup [], .int 2, .int 0, .tup [.int 0]])) = false); decide +kernel)⟩
    walk_at "alF"
    refine mk0 ?_
    refine ae_makeP (Ψ := fun _ _ => False) mono_init efits_none dT d7 ?_
    walk_at "alF"
    refine ⟨rfl, rfl, make_sent (by simp) ?_⟩
    refine ar_neO (Ψ := fun _ _ => False) mono_eq efits_none T.ins T.own.self (eq_sent ⟨rfl, by decide +kernel⟩ (.inl ⟨_, _, _, _, rfl, rfl, by decide +kernel⟩) ?_)
    refine ⟨_, rfl, ?_⟩
    exact rt0 (by rw [show (!eqRoom (RM C (.tup []) (.int 2) (.int 0) (.tup [.int 0])) (RM C (.tup []) (.int 3) (.int 0) (.tup [.int 0]))) = true from by (show (!PyData.eqv (.list (toPs [D.tup [], .int 2, .int 0, .tup [.int 0]])) (.list (toPs [D.tup [], .int 3, .int 0, .tup [.int 0]]))) = true); decide +kernel]; exact k)
end
end K01

namespace K01
open PySem PyProof.Rows L2 Al Ow
abbrev sLaw : Stmt := top 9
theorem scLaw : FnScope ["_law_script", "_law_k", "_law_bag_here", "_law_four_here", "_law_other", "_law_turn", "_law_at", "_law_one", "_law_two"] ["_law_script"] (defScope sLaw) := ⟨rfl, rfl, rfl, by decide +kernel, rfl, by decide +kernel, by decide +kernel⟩
/-- further built-ins -/
structure Bl2 (mg : Str → Option Value) : Prop where
  range : mg "range" = none
  min : mg "min" = none
  list : mg "list" = none
  tuple : mg "tuple" = none
  str : mg "str" = none
  repr : mg "repr" = none
def aLaw : ASp := fun xs M Φ _ => ∃ ns : List Int, xs = [.d (.scr (ns.map D.int))] ∧ M = [] ∧ ns.length ≤ 63 ∧ Φ (.d (.bl true)) []
local macro_rules | `(tactic| walk_at "alside") => `(tactic| first
  | decide
  | (dsimp only; decide)
  | exact Or.inr (by decide)
  | exact Or.inl (by decide)
  | (dsimp only; omega)
  | (unfold CDiv; omega)
  | (unfold CPow; omega)
  | (unfold CMul; omega)
  | assumption)
local macro_rules | `(tactic| walk_at "al1") => `(tactic| first
  | with_reducible refine as_asg ?_
  | with_reducible refine as_drop ?_
  | with_reducible refine as_ret ?_
  | with_reducible refine as_if ?_
  | with_reducible refine as_next ?_
  | with_reducible refine at_test ?_
  | with_reducible refine at_b ?_
  | with_reducible refine at_and ?_
  | with_reducible refine at_or ?_
  | with_reducible refine at_not ?_
  | with_reducible refine ae_op ?_
  | with_reducible refine ae_un ?_
  | with_reducible refine ae_cb ?_
  | with_reducible refine ae_if ?_
  | with_reducible refine ae_andV ?_
  | with_reducible refine ae_orV ?_
  | with_reducible refine ae_notV ?_
  | with_reducible refine ae_chain ?_
  | with_reducible refine ae_int ?_
  | with_reducible refine ae_bl ?_
  | with_reducible refine ae_non ?_
  | with_reducible refine ae_str ?_
  | with_reducible refine ae_ty ?_
  | with_reducible refine ae_adr ?_
  | with_reducible refine aa_nil ?_
  | with_reducible refine aa_cons ?_
  | with_reducible refine ag_name ?_
  | with_reducible refine ag_sub ?_
  | with_reducible refine at_yes ?_
  | ((with_reducible show AE _ _ (tVar _) _ _ _); refine ae_var rfl ?_)
  | ((with_reducible show AR _ _ (rI0 _) _ _ _ _); first | with_reducible refine ar_i0 ?_ | with_reducible refine ar_b0 ?_)
  | ((with_reducible show AU _ _ (rU _) _ _ _); with_reducible refine au_i ?_)
  | ((with_reducible show AR _ _ (rI _ _) _ _ _ _); refine ar_i (by walk_at "alside") ?_)
  | ((with_reducible show AR _ _ (rIxL _) _ _ _ _); first | refine ar_ixM rfl rfl ?_ | refine ar_ixL rfl ?_ | refine ar_ixS rfl ?_)
  | ((with_reducible show AR _ _ (rIxT _) _ _ _ _); refine ar_ixT rfl ?_)
  | ((with_reducible show AR _ _ rEq _ _ _ _); first | with_reducible refine ar_eqI ?_ | with_reducible refine ar_eqS ?_ | with_reducible refine ar_eqB ?_)
  | ((with_reducible show AR _ _ rNe _ _ _ _); first | with_reducible refine ar_neI ?_ | with_reducible refine ar_neS ?_ | with_reducible refine ar_neB ?_))
local macro_rules | `(tactic| walk_at "alds") => `(tactic| first
  | refine ⟨[], rfl, Nat.le_of_ble_eq_true rfl, ?_⟩
  | refine ⟨[_], rfl, Nat.le_of_ble_eq_true rfl, ?_⟩
  | refine ⟨[_, _], rfl, Nat.le_of_ble_eq_true rfl, ?_⟩
  | refine ⟨[_, _, _], rfl, Nat.le_of_ble_eq_true rfl, ?_⟩
  | refine ⟨[_, _, _, _], rfl, Nat.le_of_ble_eq_true rfl, ?_⟩
  | refine ⟨[_, _, _, _, _], rfl, Nat.le_of_ble_eq_true rfl, ?_⟩
  | refine ⟨[_, _, _, _, _, _], rfl, Nat.le_of_ble_eq_true rfl, ?_⟩
  | refine ⟨[_, _, _, _, _, _, _], rfl, Nat.le_of_ble_eq_true rfl, ?_⟩
  | refine ⟨[_, _, _, _, _, _, _, _], rfl, Nat.le_of_ble_eq_true rfl, ?_⟩
  | refine ⟨[_, _, _, _, _, _, _, _, _], rfl, Nat.le_of_ble_eq_true rfl, ?_⟩
  | refine ⟨[_, _, _, _, _, _, _, _, _, _], rfl, Nat.le_of_ble_eq_true rfl, ?_⟩
  | refine ⟨[_, _, _, _, _, _, _, _, _, _, _], rfl, Nat.le_of_ble_eq_true rfl, ?_⟩
  | refine ⟨[_, _, _, _, _, _, _, _, _, _, _, _], rfl, Nat.le_of_ble_eq_true rfl, ?_⟩)
local macro_rules | `(tactic| walk_at "alc") => `(tactic| refine ae_call0 (Ψ := fun _ _ => False) (by walk_at "almono") efits_none ?_)
local macro_rules | `(tactic| walk_at "al") => `(tactic| repeat (first | walk_at "al1" | with_reducible refine as_seq ?_ | with_reducible refine ae_tup ?_ | with_reducible walk_at "alc" | refine ⟨_, rfl, ?_⟩ | walk_at "alds" | refine ⟨_, _, _, _, _, rfl, rfl, rfl, rfl, rfl, ?_⟩))
local macro_rules | `(tactic| walk_at "alF") => `(tactic| repeat (first | walk_at "al1" | with_reducible refine as_seq ?_ | with_reducible refine ae_tup ?_ | with_reducible refine ae_lst ?_ | with_reducible walk_at "alc" | refine ⟨_, rfl, ?_⟩ | walk_at "alds" | refine ⟨_, _, _, _, _, rfl, rfl, rfl, rfl, rfl, ?_⟩))
local macro_rules | `(tactic| walk_at "alo") => `(tactic| repeat (first | walk_at "al1" | with_reducible refine ae_tup ?_ | with_reducible walk_at "alc" | refine ⟨_, rfl, ?_⟩ | walk_at "alds" | refine ⟨_, _, _, _, _, rfl, rfl, rfl, rfl, rfl, ?_⟩))
local macro_rules | `(tactic| walk_at "almono") => `(tactic| first | exact mono_take | exact mono_four | exact mono_bag | exact mono_init | exact mono_told | exact mono_made | exact mono_left)
theorem menu_lay : (∀ h ∈ Hs, h.pure = true ∧ (toP h).canLay0 = true ∧ (toP h).depth ≤ 9) ∧ (∀ h ∈ Rs, h.pure = true ∧ (toP h).canLay0 = true ∧ (toP h).depth ≤ 9) := by
  constructor <;> intro h hh <;> simp only [Hs, Rs, List.mem_cons, List.not_mem_nil, or_false] at hh <;> rcases hh with rfl | rfl | rfl | rfl | rfl | rfl <;> decide +kernel
theorem good4 {h r : D} {s f : Int} (hh : h ∈ Hs) (hr : r ∈ Rs) : Good [h, .int s, .int f, r] := by
  obtain ⟨a1, a2, a3⟩ := menu_lay.1 h hh
  obtain ⟨b1, b2, b3⟩ := menu_lay.2 r hr
  constructor
  · show (h.pure && (true && (true && (r.pure && true)))) = true
    rw [a1, b1]; rfl
  · unfold SeqAt.shaped
    show (((toP h).canLay0 && (true && (true && ((toP r).canLay0 && true)))) && decide (PyData.depth (.list [toP h, .int s, .int f, toP r]) ≤ 64)) = true
    rw [a2, b2]
    refine decide_eq_true ?_
    simp only [PyData.depth, PyData.depthAll]
    omega
theorem ns_ok : ∀ s ∈ Ns, s.natAbs.log2 < 1920 ∧ (toString s : Str).length ≤ 1000 := by decide +kernel
def isTup : D → Bool | .tup _ => true | _ => false
theorem hs_kit {K : PySem.W.Frag} {h : D} (hh : h ∈ Hs) : PySem.W.kitOne K (tyD h) (.type "tuple") = some (isTup h) ∧ TyK K h := by
  simp only [Hs, List.mem_cons, List.not_mem_nil, or_false] at hh
  rcases hh with rfl | rfl | rfl | rfl | rfl | rfl <;> exact ⟨kit_ty (by decide +kernel), trivial⟩
theorem bag_sent {M : List MO} {ns : List Int} {k : Int} {Φ : AV → List MO → Prop} {Ψ : Exc → List MO → Prop} (h0 : 0 ≤ k) (h5 : k < 5) (hn : ns.length ≤ 100) (q : ∀ g x, Φ (.m M.length) (M ++ [bag g x 0])) : Sent aBag [.d (.scr (ns.map D.int)), .d (.int k)] M Φ Ψ :=
  sentN (ys := [.scr (ns.map D.int), .int k]) mono_bag ⟨ns, k, rfl, rfl, h0, h5, hn, fun g x => ⟨_, rfl, rfl, q g x⟩⟩
theorem four_sent {M : List MO} {k : Nat} {g x c : Int} {Φ : AV → List MO → Prop} {Ψ : Exc → List MO → Prop} (hk : M[k]? = some (bag g x c)) (q : ∀ h s f r, h ∈ Hs → s ∈ Ns → f ∈ Ns → r ∈ Rs → ∀ g' x' c', Φ (.d (.lst [h, .int s, .int f, r])) (M.set k (bag g' x' c'))) : Sent aFour [.m k] M Φ Ψ :=
  sent1 (xs' := [.m 0]) mono_four hk rfl rfl ⟨g, x, c, rfl, rfl, fun h s f r a b c' d g' x' c'' => ⟨_, _, rfl, rfl, q h s f r a b c' d g' x' c''⟩⟩
theorem made_sent {C : Addr} {M : List MO} {h s f r : D} {kind : Int} {Φ : AV → List MO → Prop} {Ψ : Exc → List MO → Prop} (q : Φ (.d (RM C h s f r)) M) : Sent (aMade C) [.d (.lst [h, s, f, r]), .d (.int kind)] M Φ Ψ :=
  sent0 (ys := [.lst [h, s, f, r], .int kind]) mono_made ⟨_, h, s, f, r, kind, rfl, .inl ⟨rfl, rfl⟩, rfl, _, rfl, q⟩
theorem made_sentM {C : Addr} {M : List MO} {k : Nat} {h s f r : D} {kind : Int} {Φ : AV → List MO → Prop} {Ψ : Exc → List MO → Prop} (hk : M[k]? = some (.lst [h, s, f, r])) (q : Φ (.d (RM C h s f r)) (M.set k (.lst [h, s, f, r]))) : Sent (aMade C) [.m k, .d (.int kind)] M Φ Ψ :=
  sent1 (xs' := [.m 0, .d (.int kind)]) mono_made hk rfl rfl ⟨_, h, s, f, r, kind, rfl, .inr ⟨rfl, rfl⟩, _, _, rfl, rfl, q⟩
theorem left_sent {M : List MO} {Φ : AV → List MO → Prop} {Ψ : Exc → List MO → Prop} (q : Φ (.d (.bl true)) M) : Sent aLeft [] M Φ Ψ := sent0 (ys := []) mono_left ⟨rfl, rfl, rfl, _, rfl, q⟩
/-- the other four: one place put otherwise -/
def Oth (l : List D) : Prop := ∃ h s f r, l = [h, .int s, .int f, r] ∧ h ∈ Hs ∧ s ∈ Ns ∧ f ∈ Ns ∧ r ∈ Rs
theorem oth_set {l l' : List D} (a : Oth l) (b : Oth l') {i : Int} (h0 : 0 ≤ i) (h4 : i < 4) : ∃ d j, atI l' i = some d ∧ ixN l.length i = some j ∧ Oth (l.set j d) := by
  obtain ⟨h, s, f, r, rfl, a1, a2, a3, a4⟩ := a
  obtain ⟨h', s', f', r', rfl, b1, b2, b3, b4⟩ := b
  obtain rfl | rfl | rfl | rfl : i = 0 ∨ i = 1 ∨ i = 2 ∨ i = 3 := by omega
  · exact ⟨_, _, rfl, rfl, h', s, f, r, rfl, b1, a2, a3, a4⟩
  · exact ⟨_, _, rfl, rfl, h, s', f, r, rfl, a1, b2, a3, a4⟩
  · exact ⟨_, _, rfl, rfl, h, s, f', r, rfl, a1, a2, b3, a4⟩
  · exact ⟨_, _, rfl, rfl, h, s, f, r', rfl, a1, a2, a3, b4⟩
theorem ind_for {eqf : D → D → Bool} {x : D} {Q : Bool → Prop} (q : Q false) : ∀ {ds : List D}, (∀ d ∈ ds, d.isIns = false ∧ eqf x d = false) → InD eqf x ds Q
  | [], _ => q
  | d :: ds, h => by
    obtain ⟨h1, h2⟩ := h d List.mem_cons_self
    unfold InD
    rw [if_neg (by rw [h1]; exact Bool.false_ne_true)]
    exact ⟨fun z => absurd z (by rw [h2]; exact Bool.false_ne_true), fun _ => ind_for q fun d hd => h d (List.mem_cons_of_mem _ hd)⟩
theorem hs_tup {h : D} (hh : h ∈ Hs) (t : isTup h = true) : ∃ l, h = .tup l ∧ l.length ≤ 3 := by
  simp only [Hs, List.mem_cons, List.not_mem_nil, or_false] at hh
  rcases hh with rfl | rfl | rfl | rfl | rfl | rfl <;> first | exact ⟨_, rfl, by decide⟩ | exact absurd t (by decide)
section
variable {P : Program} {w : World} {K : PySem.W.Frag} {mg : Str → Option Value} {base : Heap} {C : Addr}
/-- the defs of the law's own -/
structure LawX (K : PySem.W.Frag) (mg : Str → Option Value) (fB fK fF fM fS : Addr) (fdB fdK fdF fdM fdS : FuncData) : Prop where
  FB : Fun K "_law_bag" "_law_bag" sBag fB fdB
  FK : Fun K "_law_take" "_law_take" sTake fK fdK
  FF : Fun K "_law_four" "_law_four" sFour fF fdF
  FM : Fun K "_law_made" "_law_made" sMade fM fdM
  FS : Fun K "_law_some_left_out" "_law_some_left_out" sLeft fS fdS
  cB : Cal K mg "_law_bag" ["_law_script", "_law_at"] fB fdB
  cK : Cal K mg "_law_take" ["_law_bag_here", "_law_many"] fK fdK
  cF : Cal K mg "_law_four" ["_law_bag_here"] fF fdF
  cM : Cal K mg "_law_made" ["_law_four_here", "_law_kind"] fM fdM
  cS : Cal K mg "_law_some_left_out" [] fS fdS
theorem ok_law {f fI T1 T2 fE fA fL fR fT fB fK fF fM fS : Addr} {fd fdI fdE fdA fdL fdR fdT fdB fdK fdF fdM fdS : FuncData} (F : Fun K "law" "law" sLaw f fd) (T : RoomT K mg C) (R : RoomM K C T1 T2 fI fdI) (X : RoomX K mg C fE fA fL fR fT fdE fdA fdL fdR fdT)
    (Y : LawX K mg fB fK fF fM fS fdB fdK fdF fdM fdS) (Tb : Blt mg) (Tc : Bl2 mg) : FnOk P w K mg base CX0 5 f fd ["_law_script"] (conc K aLaw) := by
  have GB : FnOk P w K mg base CX0 1 fB fdB ["_law_script", "_law_at"] (conc K aBag) := ok_bag Y.FB Tb
  have GK : FnOk P w K mg base CX0 1 fK fdK ["_law_bag_here", "_law_many"] (conc K aTake) := ok_take Y.FK
  have GF : FnOk P w K mg base CX0 2 fF fdF ["_law_bag_here"] (conc K aFour) := ok_four Y.FF Y.FK Y.cK
  have GM : FnOk P w K mg base CX0 3 fM fdM ["_law_four_here", "_law_kind"] (conc K (aMade C)) := ok_made Y.FM T R
  have GS : FnOk P w K mg base CX0 4 fS fdS [] (conc K aLeft) := ok_left Y.FS T R X
  have GT : FnOk P w K mg base CX0 1 fT fdT ["_law_room"] (conc K (aTold C)) := ok_told X.FT T
  have GE : FnOk P w K mg base CX0 2 fE fdE ["self", "other"] (conc K (aEq C)) := ok_eq X.FE T X.FA X.bA X.mA
  have GL : FnOk P w K mg base CX0 1 fL fdL ["self"] (conc K (aLen C)) := ok_len X.FL T
  have GR : FnOk P w K mg base CX0 1 fR fdR ["self"] (conc K (aRepr C)) := ok_repr X.FR T
  refine fn_al F scLaw (fun xs M Φ Ψ h => ?_) (fun cdv A outer s H E hr => ⟨_, pss_cons (ps_for PassesOwn.never rfl (pi_range1 rfl Tc.range (pa_cons (pe_op op_add pe_int (pe_callB (call_min2 rfl) (by rfl) Tc.min (by decide +kernel) (pa_cons pe_int (pa_cons (pe_callB call_len_seq (by rfl) T.len PySem.boot_len (pa_cons (pv 0) pa_nil)) pa_nil)))) pa_nil)) (pg_name (i := 1) scLaw.nd rfl (Or.inl rfl))
      (pss_cons (ps_set (i := 2) scLaw.nd rfl (Or.inl rfl) (pe_call GB (hr.mono (by decide)) rfl Y.cB.mg Y.cB.kp Y.cB.b .nil pass0 (pa_cons (pv 0) (pa_cons (pv 1) pa_nil))))
      (pss_cons (ps_set (i := 3) scLaw.nd rfl (Or.inl rfl) (pe_call GF (hr.mono (by decide)) rfl Y.cF.mg Y.cF.kp Y.cF.b .nil pass0 (pa_cons (pv 2) pa_nil)))
      (pss_cons (ps_set (i := 4) scLaw.nd rfl (Or.inl rfl) (pe_callTy call_list_of (by rfl) Tc.list (by decide +kernel) (pa_cons (pv 3) pa_nil)))
      (pss_cons (ps_for PassesOwn.never rfl (pi_range1 rfl Tc.range (pa_cons (pe_call GK (hr.mono (by decide)) rfl Y.cK.mg Y.cK.kp Y.cK.b .nil pass0 (pa_cons (pv 2) (pa_cons pe_int pa_nil))) pa_nil)) (pg_name (i := 5) scLaw.nd rfl (Or.inl rfl))
        (pss_cons (ps_set (i := 6) scLaw.nd rfl (Or.inl rfl) (pe_call GK (hr.mono (by decide)) rfl Y.cK.mg Y.cK.kp Y.cK.b .nil pass0 (pa_cons (pv 2) (pa_cons pe_int pa_nil))))
        (pss_one (ps_asg (pe_ix ix_list (pe_call GF (hr.mono (by decide)) rfl Y.cF.mg Y.cF.kp Y.cF.b .nil pass0 (pa_cons (pv 2) pa_nil)) (pv 6) (fun _ _ => rfl)) (pg_sub (pv 4) (pv 6) set_list)))))
      (pss_cons (ps_par (i := 7) (j := 8) (by rfl) scLaw.nd rfl rfl (by decide) rfl rfl (pa_cons (pe_call GM (hr.mono (by decide)) rfl Y.cM.mg Y.cM.kp Y.cM.b .nil pass0 (pa_cons (pv 3) (pa_cons (pe_call GK (hr.mono (by decide)) rfl Y.cK.mg Y.cK.kp Y.cK.b .nil pass0 (pa_cons (pv 2) (pa_cons pe_int pa_nil))) pa_nil)))
        (pa_cons (pe_call GM (hr.mono (by decide)) rfl Y.cM.mg Y.cM.kp Y.cM.b .nil pass0 (pa_cons (pv 4) (pa_cons (pe_call GK (hr.mono (by decide)) rfl Y.cK.mg Y.cK.kp Y.cK.b .nil pass0 (pa_cons (pv 2) (pa_cons pe_int pa_nil))) pa_nil))) pa_nil)) (by rfl))
      (pss_cons (ps_if (PW.pt (pw_or (pt_cmpR (op_neD hr.units) (pe_call GT (hr.mono (by decide)) rfl X.cT.mg X.cT.kp X.cT.b .nil pass0 (pa_cons (pv 7) pa_nil)) (pv 3) (nomark _)) (pw_or1 (pt_cmpR (op_neD hr.units) (pe_call GT (hr.mono (by decide)) rfl X.cT.mg X.cT.kp X.cT.b .nil pass0 (pa_cons (pv 8) pa_nil)) (pv 4) (nomark _))))) (pss_one (ps_ret pe_bl)) pss_nil)
      (pss_cons (ps_if (PW.pt (pw_and (pt_val (pe_callB call_isi (by rfl) T.isB (by decide +kernel) (pa_cons (pe_ix ix_list (pv 3) pe_int (fun _ _ => rfl)) (pa_cons (pe_bltn (v := .ty "tuple") (by rfl) Tc.tuple (by decide +kernel) rfl) pa_nil)))) (pw_and1 (pt_cmpR op_ne (pe_callB (call_lenO X.mL GL X.bL (hr.mono (by decide)) pass0) (by rfl) T.len PySem.boot_len (pa_cons (pv 7) pa_nil)) (pe_callB call_len_seq (by rfl) T.len PySem.boot_len (pa_cons (pe_ix ix_list (pv 3) pe_int (fun _ _ => rfl)) pa_nil)) (nomark _))))) (pss_one (ps_ret pe_bl)) pss_nil)
      (pss_cons (ps_if (PW.pt (pw_or (pt_cmpR op_ne (pe_cmpR (op_eqO X.mE GE X.bE (hr.mono (by decide)) pass0) (pv 7) (pv 8) (nomark _)) (pe_cmpR (op_eqD hr.units) (pv 3) (pv 4) (nomark _)) (nomark _)) (pw_or1 (pt_cmpR op_ne (pe_cmpR (op_neO X.mE X.ne T.ins.hm GE X.bE (hr.mono (by decide)) pass0) (pv 8) (pv 7) (nomark _)) (pe_cmpR (op_neD hr.units) (pv 3) (pv 4) (nomark _)) (nomark _))))) (pss_one (ps_ret pe_bl)) pss_nil)
      (pss_cons (ps_if (pt_cmpR op_ne (pe_callB (call_reprO X.mR GR X.bR (hr.mono (by decide)) pass0) (by rfl) Tc.repr (by decide +kernel) (pa_cons (pv 7) pa_nil)) (pe_op op_add_str (pe_op op_add_str pe_str (pe_callTy call_str_int (by rfl) Tc.str (by decide +kernel) (pa_cons (pe_ix ix_list (pv 3) pe_int (fun _ _ => rfl)) pa_nil))) pe_str) (nomark _)) (pss_one (ps_ret pe_bl)) pss_nil)
      (pss_one (ps_if (PW.pt (pw_or (pt_cmpR (op_neO X.mE X.ne T.ins.hm GE X.bE (hr.mono (by decide)) pass0) (pv 7) (pv 7) (nomark _)) (pw_or (pt_cmpR (op_inO T.own X.mE GE X.bE (hr.mono (by decide)) pass0) (pv 7) (pe_lst (pa_cons (pv 3) (pa_cons (pe_callTy call_tuple_of (by rfl) Tc.tuple (by decide +kernel) (pa_cons (pv 3) pa_nil)) (pa_cons pe_non (pa_cons pe_int (pa_cons pe_str pa_nil)))))) (by rfl))
        (pw_or1 (pt_cmpR (op_notInO T.own X.mE GE X.bE (hr.mono (by decide)) pass0) (pv 7) (pe_lst (pa_cons (pv 8) (pa_cons (pv 7) pa_nil))) (by rfl)))))) (pss_one (ps_ret pe_bl)) pss_nil))))))))))))
      (pss_one (ps_ret (pe_call0 GS hr rfl Y.cS.mg Y.cS.kp Y.cS.b .nil pass0))), fun B xs M Φ Ψ hB h => ?_⟩)
  · obtain ⟨ns, rfl, _⟩ := h
    rfl
  · obtain ⟨ns, rfl, rfl, hn, k⟩ := h
    refine as_seq (as_for (n := 0) (fun _ σ M => M = [] ∧ ∃ a1 a2 a3 a4 a5 a6 a7 a8, σ = [some (.d (.scr (ns.map D.int))), a1, a2, a3, a4, a5, a6, a7, a8]) (by rintro _ _ _ ⟨rfl, _⟩; rfl) (ai_rng1 ?_))
    walk_at "al"
    refine ac_len (.scr _) ?_
    walk_at "al"
    refine ac_min ?_
    walk_at "al"
    rw [List.length_map]
    have hj : ∃ j : Int, 1 ≤ j ∧ j ≤ 5 ∧ (1 + if (ns.length : Int) < 4 then (ns.length : Int) else 4) = j := ⟨_, by split <;> omega, by split <;> omega, rfl⟩
    obtain ⟨j, j1, j5, ej⟩ := hj
    rw [ej]
    refine ⟨by omega, by omega, ⟨rfl, none, none, none, none, none, none, none, none, rfl⟩, ?_, ?_⟩
    · rintro i d σ' M' hi ⟨rfl, a1, a2, a3, a4, a5, a6, a7, a8, rfl⟩
      obtain ⟨hi, rfl⟩ := rngD_get hi
      have k0 : (0 : Int) ≤ 0 + (i : Int) := by omega
      have k5 : (0 : Int) + (i : Int) < 5 := by omega
      generalize hk : (0 : Int) + (i : Int) = kk at k0 k5 ⊢
      walk_at "alo"
      refine as_seq ?_
      walk_at "alo"
      refine bag_sent k0 k5 (by omega) fun g x => ?_
      walk_at "alo"
      refine as_seq ?_
      walk_at "alo"
      refine four_sent rfl fun h1 s1 f1 r1 m1 m2 m3 m4 g1 x1 c1 => ?_
      walk_at "alo"
      refine as_seq ?_
      walk_at "alo"
      refine ac_listM (.lst _) ?_
      walk_at "alo"
      -- the other four
      refine as_seq (as_for (n := 2) (fun _ σ M => ∃ (g x c : Int) (l : List D) (b5 b6 b7 b8 : Option AV), Oth l ∧ M = [bag g x c, .lst l] ∧ σ = [some (.d (.scr (ns.map D.int))), some (.d (.int kk)), some (.m 0), some (.d (.lst [h1, .int s1, .int f1, r1])), some (.m 1), b5, b6, b7, b8]) (by rintro _ _ _ ⟨_, _, _, _, _, _, _, _, _, rfl, _⟩; rfl) (ai_rng1 ?_))
      walk_at "alo"
      refine take_sent rfl (by decide) (by decide) fun r g2 x2 c2 hr0 hr3 => ?_
      walk_at "alo"
      refine ⟨by omega, by omega, ⟨_, _, _, _, _, _, _, _, ⟨h1, s1, f1, r1, rfl, m1, m2, m3, m4⟩, rfl, rfl⟩, ?_, ?_⟩
      · rintro i' d' σ'' M'' _ ⟨g3, x3, c3, l, b5, b6, b7, b8, ol, rfl, rfl⟩
        walk_at "alo"
        refine as_seq ?_
        walk_at "alo"
        refine take_sent rfl (by decide) (by decide) fun r' g4 x4 c4 hr0' hr4' => ?_
        walk_at "alo"
        refine four_sent rfl fun h2 s2 f2 r2 n1 n2 n3 n4 g5 x5 c5 => ?_
        walk_at "alo"
        obtain ⟨d, jj, e1, e2, o2⟩ := oth_set ol ⟨h2, s2, f2, r2, rfl, n1, n2, n3, n4⟩ hr0' hr4'
        refine ar_ixL e1 ?_
        refine ag_sub (ae_var rfl (ae_var rfl ⟨1, _, _, _, _, rfl, rfl, rfl, e2, rfl, ?_⟩))
        exact ⟨by simp [MO.below, bag], _, _, _, _, _, _, _, _, o2, rfl, rfl⟩
      · rintro σ'' M'' ⟨g3, x3, c3, l, b5, b6, b7, b8, ⟨h2, s2, f2, r2, rfl, n1, n2, n3, n4⟩, rfl, rfl⟩
        refine as_seq (as_par ?_)
        walk_at "alo"
        refine take_sent rfl (by decide) (by decide) fun r' g4 x4 c4 _ _ => ?_
        walk_at "alo"
        refine made_sent ?_
        walk_at "alo"
        refine take_sent rfl (by decide) (by decide) fun r'' g5 x5 c5 _ _ => ?_
        walk_at "alo"
        refine made_sentM rfl ?_
        walk_at "alo"
        refine ⟨_, _, rfl, ?_⟩
        have gd1 : Good [h1, .int s1, .int f1, r1] := good4 m1 m4
        have gd2 : Good [h2, .int s2, .int f2, r2] := good4 n1 n4
        have ev1 := eqv_self gd1
        have ev2 := eqv_self gd2
        have ok1 : OkD C (RM C h1 (.int s1) (.int f1) r1) := .inl ⟨_, _, _, _, rfl, gd1⟩
        have ok2 : OkD C (RM C h2 (.int s2) (.int f2) r2) := .inl ⟨_, _, _, _, rfl, gd2⟩
        -- the fields
        refine as_seq ?_
        walk_at "alo"
        refine told_sent ?_
        walk_at "alo"
        refine ar_neD (.d gd1.1) (.d gd1.1) gd1.2 gd1.2 ?_
        walk_at "alo"
        refine ⟨fun z => absurd z (by show ¬ (!PyData.eqv (.list (toPs [h1, .int s1, .int f1, r1])) (.list (toPs [h1, .int s1, .int f1, r1]))) = true; rw [ev1]; decide), fun _ => ?_⟩
        walk_at "alo"
        refine told_sent ?_
        walk_at "alo"
        refine ar_neD (.d gd2.1) (.mm rfl gd2.1) gd2.2 gd2.2 ?_
        walk_at "alo"
        refine ⟨fun z => absurd z (by show ¬ (!PyData.eqv (.list (toPs [h2, .int s2, .int f2, r2])) (.list (toPs [h2, .int s2, .int f2, r2]))) = true; rw [ev2]; decide), fun _ => ?_⟩
        walk_at "alo"
        -- the length
        refine as_cut (fun σ' M' => M' = [bag g5 x5 c5, .lst [h2, .int s2, .int f2, r2]] ∧ σ' = [some (.d (.scr (ns.map D.int))), some (.d (.int kk)), some (.m 0), some (.d (.lst [h1, .int s1, .int f1, r1])), some (.m 1), b5, b6, some (.d (RM C h1 (.int s1) (.int f1) r1)), some (.d (RM C h2 (.int s2) (.int f2) r2))]) ?_ ?_
        · walk_at "alo"
          refine ac_isiB (b := isTup h1) (hs_kit m1).2 (hs_kit m1).1 ?_
          walk_at "alo"
          refine ⟨fun ht => ?_, fun _ => ?_⟩
          · obtain ⟨l, el, hl⟩ := hs_tup m1 ht
            walk_at "alo"
            refine ac_lenO (Ψ := fun _ _ => False) mono_len efits_none ?_
            rw [el]
            refine sent0 (ys := [RM C (.tup l) (.int s1) (.int f1) r1]) mono_len ⟨l, _, _, _, rfl, rfl, rfl, _, rfl, _, rfl, by omega, by omega, ?_⟩
            walk_at "alo"
            refine ac_lenT ?_
            walk_at "alo"
            refine ⟨fun z => absurd z (by simp), fun _ => ?_⟩
            walk_at "alo"
            exact ⟨rfl, rfl⟩
          · walk_at "alo"
            refine ⟨fun z => (nomatch z), fun _ => ?_⟩
            walk_at "alo"
            exact ⟨rfl, rfl⟩
        · rintro σ' M' ⟨rfl, rfl⟩
          -- equal just where all four are
          refine as_seq ?_
          walk_at "alo"
          refine ar_eqO (Ψ := fun _ _ => False) mono_eq efits_none T.ins T.own.self (eq_sent gd1 ok2 ?_)
          walk_at "alo"
          refine ar_eqD (.d gd1.1) (.mm rfl gd2.1) gd1.2 gd2.2 ?_
          walk_at "alo"
          refine ⟨fun z => absurd z (by show ¬ (!decide (PyData.eqv (.list (toPs [h1, .int s1, .int f1, r1])) (.list (toPs [h2, .int s2, .int f2, r2])) = PyData.eqv (.list (toPs [h1, .int s1, .int f1, r1])) (.list (toPs [h2, .int s2, .int f2, r2])))) = true; simp), fun _ => ?_⟩
          walk_at "alo"
          refine ar_neO (Ψ := fun _ _ => False) mono_eq efits_none T.ins T.own.self (eq_sent gd2 ok1 ?_)
          refine ⟨_, rfl, ?_⟩
          walk_at "alo"
          refine ar_neD (.d gd1.1) (.mm rfl gd2.1) gd1.2 gd2.2 ?_
          walk_at "alo"
          refine ⟨fun z => absurd z (by
            show ¬ (!decide ((!PyData.eqv (.list (toPs [h2, .int s2, .int f2, r2])) (.list (toPs [h1, .int s1, .int f1, r1]))) = (!PyData.eqv (.list (toPs [h1, .int s1, .int f1, r1])) (.list (toPs [h2, .int s2, .int f2, r2]))))) = true
            rw [PySem.W.eqv_comm (.list (toPs [h2, .int s2, .int f2, r2]))]; simp), fun _ => ?_⟩
          walk_at "alo"
          -- the text
          obtain ⟨hz, hl⟩ := ns_ok s1 m2
          refine as_seq ?_
          walk_at "alo"
          refine ac_reprO (Ψ := fun _ _ => False) mono_repr efits_none ?_
          refine sent0 (ys := [RM C h1 (.int s1) (.int f1) r1]) mono_repr ⟨h1, s1, _, _, rfl, rfl, hz, hl, rfl, _, rfl, _, rfl, ?_⟩
          walk_at "alo"
          refine ac_str hz ?_
          refine ar_addS ?_ ?_
          · have : ("Room(" : Str).length = 5 := by decide +kernel
            have : sizeLine = 16777216 := sizeLine_eq
            omega
          walk_at "alo"
          refine ar_addS ?_ ?_
          · rw [len_app]
            have : ("Room(" : Str).length = 5 := by decide +kernel
            have : (")" : Str).length = 1 := by decide +kernel
            have : sizeLine = 16777216 := sizeLine_eq
            omega
          walk_at "alo"
          refine ⟨fun z => absurd z (by simp), fun _ => ?_⟩
          walk_at "alo"
          -- to itself, to other things
          refine ar_neO (Ψ := fun _ _ => False) mono_eq efits_none T.ins T.own.self (eq_sent gd1 ok1 ?_)
          refine ⟨_, rfl, ?_⟩
          walk_at "alo"
          refine ⟨fun z => absurd z (by show ¬ (!PyData.eqv (.list (toPs [h1, .int s1, .int f1, r1])) (.list (toPs [h1, .int s1, .int f1, r1]))) = true; rw [ev1]; decide), fun _ => ?_⟩
          walk_at "alF"
          refine ac_tuple (.lst _) ?_
          walk_at "alF"
          refine ar_inO (eqf := eqRoom) (Ψ := fun _ _ => False) mono_eq efits_none ?_ (ind_for ?_ ?_)
          · intro d hd
            simp only [List.mem_cons, List.not_mem_nil, or_false] at hd
            rcases hd with rfl | rfl | rfl | rfl | rfl <;> exact .inr ⟨rfl, rfl, fun Φ' p => eq_sent gd1 (.inr rfl) p⟩
          · walk_at "alF"
            refine ⟨fun z => (nomatch z), fun _ => ?_⟩
            walk_at "alF"
            refine ar_inO (eqf := eqRoom) (neg := true) (Ψ := fun _ _ => False) mono_eq efits_none ?_ ?_
            · intro d hd
              simp only [List.mem_cons, List.not_mem_nil, or_false] at hd
              rcases hd with rfl | rfl
              · exact .inl ⟨rfl, ⟨_, _, rfl⟩, fun Φ' p => eq_sent gd2 ok1 p⟩
              · exact .inl ⟨rfl, ⟨_, _, rfl⟩, fun Φ' p => eq_sent gd1 ok1 p⟩
            · have key : ∀ {Q : Bool → Prop}, Q true → InD eqRoom (RM C h1 (.int s1) (.int f1) r1) [RM C h2 (.int s2) (.int f2) r2, RM C h1 (.int s1) (.int f1) r1] Q := fun q =>
                ⟨q, fun _ => q, fun _ => ⟨q, fun _ => q, fun z => absurd z (by show ¬ PyData.eqv (.list (toPs [h1, .int s1, .int f1, r1])) (.list (toPs [h1, .int s1, .int f1, r1])) = false; rw [ev1]; decide)⟩⟩
              refine key ?_
              walk_at "alF"
              refine ⟨fun z => (nomatch z), fun _ => ?_⟩
              walk_at "alF"
              exact ⟨by simp, rfl, _, _, _, _, _, _, _, _, rfl⟩
          · intro d hd
            simp only [List.mem_cons, List.not_mem_nil, or_false] at hd
            rcases hd with rfl | rfl | rfl | rfl | rfl <;> exact ⟨rfl, rfl⟩
    · rintro σ' M' ⟨rfl, a1, a2, a3, a4, a5, a6, a7, a8, rfl⟩
      refine as_ret (ae_call0 (Ψ := fun _ _ => False) mono_left efits_none (aa_nil (left_sent (rt0 k))))
end
end K01

namespace K01
open PySem PyProof.Rows L2 Al Ow
def spLaw (K : PySem.W.Frag) : Sp := fun vs H Q _ => ∃ (a : Addr) (ns : List Int), vs = [.ref a] ∧ SqL K H a (ns.map V.int) ∧ ns.length ≤ 63 ∧ ∀ H', Q (.bl true) H'
theorem law_imp {K : PySem.W.Frag} (vs : List V) (H : Hp) (Q : VK) (E : XK) (h : spLaw K vs H Q E) : conc K aLaw vs H Q E := by
  obtain ⟨a, ns, rfl, hs, hn, q⟩ := h
  refine ⟨H, [], [], [.d (.scr (ns.map D.int))], ⟨fun _ _ h => h, by simp, rfl, by simp, by simp⟩, ras_cons (x := .d (.scr (ns.map D.int))) ⟨a, _, rfl, hs, RDs.of_ints ns⟩ ras_nil, ns, rfl, rfl, hn, fun W' μ' H' v _ r => ?_⟩
  cases r
  exact q H'
theorem not_first_self {K : PySem.W.Frag} {C : Addr} : PySem.W.notFirst K C (.ref C) = true := by
  unfold PySem.W.notFirst
  rw [beq_self_eq_true, Bool.true_or]
theorem kit_no {K : PySem.W.Frag} {C : Addr} {T : String} (h1 : PySem.W.hasDictIn K C = true) (h2 : PySem.W.typeIn K (.ref C) = some (.type "type")) (h3 : (PySem.fastBuiltinMro T).map (·.contains (Value.ref C)) = some false) : PySem.W.kitOne K (.type T) (.ref C) = some false := by
  have hc : (PySem.W.clsIn K C).isSome = true := by
    unfold PySem.W.hasDictIn at h1
    cases e : PySem.W.clsIn K C with
    | some cd => rfl
    | none => rw [e] at h1; cases h1
  unfold PySem.W.kitOne
  rw [if_neg (by intro z; cases eq_of_beq z)]
  unfold PySem.W.kitCls
  dsimp only
  rw [hc, h2, if_pos (by rfl)]
  exact h3
theorem all_mk {l : PySem.W.OpenLaw} {w : World} {K : PySem.W.Frag} {h : Heap} {mg : Str → Option Value} {fa C f1 f2 f3 f4 f5 f6 f7 f8 f9 f10 f11 f12 TT DD T1 T2 : Addr} (X : K.In h) (G : h.Ns mainGlobals mg) (hfa : mg "law" = some (.ref fa))
    {od1 an1 od2 an2 od3 an3 od4 an4 od5 an5 od6 an6 od7 an7 od8 an8 od9 an9 od10 an10 od11 an11 od12 an12 odT odA odB : Option Addr} {sl1 sl2 sl3 sl4 sl5 sl6 sl7 sl8 sl9 sl10 sl11 sl12 slT slA slB : Array (Option Value)}
    {oc1 dc1 pm1 cd1 ct1 oc2 kV2 dc2 pm2 cd2 ct2 oc3 kV3 dc3 pm3 cd3 ct3 oc4 kV4 dc4 pm4 cd4 ct4 oc5 kV5 dc5 pm5 cd5 ct5 oc6 kV6 dc6 pm6 cd6 ct6 oc7 kV7 dc7 pm7 cd7 ct7 oc8 kV8 dc8 pm8 cd8 ct8 oc9 kV9 dc9 pm9 cd9 ct9 oc10 kV10 dc10 pm10 cd10 ct10 oc11 kV11 dc11 pm11 cd11 ct11 oc12 kV12 dc12 pm12 cd12 ct12 ocT : Value} {nT nA nB : Nat} {tk2 tk0 tkB : Tok}
    (aC : PySem.W.nsIn K mainGlobals "Room" = some (some (.ref C)))
    (a1 : PySem.W.findIn K (.ref C) "__init__" = some (some (.ref f1))) (i1 : PySem.W.isFn K (.ref f1) = true) (l1 : K.lookup f1 = some ⟨oc1, od1, .func (PySem.W.fnOf "__init__" "Room.__init__" (defArgs sInit) (defBody sInit) (defScope sInit) (.ref TT) (.ref DD) dc1 pm1 an1 cd1 ct1), sl1⟩) (c1 : PySem.W.codeIn K cd1 "Room.__init__" = true) (k1 : PySem.W.keepIn K (.ref f1) = true)
    (lT : K.lookup TT = some ⟨ocT, odT, .seq (List.toArray [.ref T1]) nT, slT⟩) (lA : K.lookup T1 = some ⟨.type "tuple", odA, .seq (List.toArray []) nA, slA⟩)
    (d1 : PySem.W.nsIn K DD "size" = some (some (.int 2 tk2))) (d2 : PySem.W.nsIn K DD "first" = some (some (.int 0 tk0))) (d3 : PySem.W.nsIn K DD "rule" = some (some (.ref T2))) (lB : K.lookup T2 = some ⟨.type "tuple", odB, .seq (List.toArray [.int 0 tkB]) nB, slB⟩)
    (a2 : PySem.W.findIn K (.ref C) "all_four" = some (some (.ref f2))) (i2 : PySem.W.isFn K (.ref f2) = true) (l2 : K.lookup f2 = some ⟨oc2, od2, .func (PySem.W.fnOf "all_four" "Room.all_four" (defArgs sAll) (defBody sAll) (defScope sAll) .none kV2 dc2 pm2 an2 cd2 ct2), sl2⟩) (c2 : PySem.W.codeIn K cd2 "Room.all_four" = true) (k2 : PySem.W.keepIn K (.ref f2) = true)
    (a3 : PySem.W.findIn K (.ref C) "__eq__" = some (some (.ref f3))) (i3 : PySem.W.isFn K (.ref f3) = true) (l3 : K.lookup f3 = some ⟨oc3, od3, .func (PySem.W.fnOf "__eq__" "Room.__eq__" (defArgs sEq) (defBody sEq) (defScope sEq) .none kV3 dc3 pm3 an3 cd3 ct3), sl3⟩) (c3 : PySem.W.codeIn K cd3 "Room.__eq__" = true) (k3 : PySem.W.keepIn K (.ref f3) = true)
    (a4 : PySem.W.findIn K (.ref C) "__len__" = some (some (.ref f4))) (i4 : PySem.W.isFn K (.ref f4) = true) (l4 : K.lookup f4 = some ⟨oc4, od4, .func (PySem.W.fnOf "__len__" "Room.__len__" (defArgs sLen) (defBody sLen) (defScope sLen) .none kV4 dc4 pm4 an4 cd4 ct4), sl4⟩) (c4 : PySem.W.codeIn K cd4 "Room.__len__" = true) (k4 : PySem.W.keepIn K (.ref f4) = true)
    (a5 : PySem.W.findIn K (.ref C) "__repr__" = some (some (.ref f5))) (i5 : PySem.W.isFn K (.ref f5) = true) (l5 : K.lookup f5 = some ⟨oc5, od5, .func (PySem.W.fnOf "__repr__" "Room.__repr__" (defArgs sRepr) (defBody sRepr) (defScope sRepr) .none kV5 dc5 pm5 an5 cd5 ct5), sl5⟩) (c5 : PySem.W.codeIn K cd5 "Room.__repr__" = true) (k5 : PySem.W.keepIn K (.ref f5) = true)
    (a6 : PySem.W.nsIn K mainGlobals "_law_bag" = some (some (.ref f6))) (l6 : K.lookup f6 = some ⟨oc6, od6, .func (PySem.W.fnOf "_law_bag" "_law_bag" (defArgs sBag) (defBody sBag) (defScope sBag) .none kV6 dc6 pm6 an6 cd6 ct6), sl6⟩) (c6 : PySem.W.codeIn K cd6 "_law_bag" = true) (k6 : PySem.W.keepIn K (.ref f6) = true)
    (a7 : PySem.W.nsIn K mainGlobals "_law_take" = some (some (.ref f7))) (l7 : K.lookup f7 = some ⟨oc7, od7, .func (PySem.W.fnOf "_law_take" "_law_take" (defArgs sTake) (defBody sTake) (defScope sTake) .none kV7 dc7 pm7 an7 cd7 ct7), sl7⟩) (c7 : PySem.W.codeIn K cd7 "_law_take" = true) (k7 : PySem.W.keepIn K (.ref f7) = true)
    (a8 : PySem.W.nsIn K mainGlobals "_law_four" = some (some (.ref f8))) (l8 : K.lookup f8 = some ⟨oc8, od8, .func (PySem.W.fnOf "_law_four" "_law_four" (defArgs sFour) (defBody sFour) (defScope sFour) .none kV8 dc8 pm8 an8 cd8 ct8), sl8⟩) (c8 : PySem.W.codeIn K cd8 "_law_four" = true) (k8 : PySem.W.keepIn K (.ref f8) = true)
    (a9 : PySem.W.nsIn K mainGlobals "_law_made" = some (some (.ref f9))) (l9 : K.lookup f9 = some ⟨oc9, od9, .func (PySem.W.fnOf "_law_made" "_law_made" (defArgs sMade) (defBody sMade) (defScope sMade) .none kV9 dc9 pm9 an9 cd9 ct9), sl9⟩) (c9 : PySem.W.codeIn K cd9 "_law_made" = true) (k9 : PySem.W.keepIn K (.ref f9) = true)
    (a10 : PySem.W.nsIn K mainGlobals "_law_told" = some (some (.ref f10))) (l10 : K.lookup f10 = some ⟨oc10, od10, .func (PySem.W.fnOf "_law_told" "_law_told" (defArgs sTold) (defBody sTold) (defScope sTold) .none kV10 dc10 pm10 an10 cd10 ct10), sl10⟩) (c10 : PySem.W.codeIn K cd10 "_law_told" = true) (k10 : PySem.W.keepIn K (.ref f10) = true)
    (a11 : PySem.W.nsIn K mainGlobals "_law_some_left_out" = some (some (.ref f11))) (l11 : K.lookup f11 = some ⟨oc11, od11, .func (PySem.W.fnOf "_law_some_left_out" "_law_some_left_out" (defArgs sLeft) (defBody sLeft) (defScope sLeft) .none kV11 dc11 pm11 an11 cd11 ct11), sl11⟩) (c11 : PySem.W.codeIn K cd11 "_law_some_left_out" = true) (k11 : PySem.W.keepIn K (.ref f11) = true)
    (a12 : PySem.W.nsIn K mainGlobals "law" = some (some (.ref f12))) (l12 : K.lookup f12 = some ⟨oc12, od12, .func (PySem.W.fnOf "law" "law" (defArgs sLaw) (defBody sLaw) (defScope sLaw) .none kV12 dc12 pm12 an12 cd12 ct12), sl12⟩) (c12 : PySem.W.codeIn K cd12 "law" = true) (k12 : PySem.W.keepIn K (.ref f12) = true)
    (pg : PySem.W.plainGet K C Str.empty = true) (hd : PySem.W.hasDictIn K C = true) (po : PySem.W.plainOver K C = true) (sa : PySem.W.findIn K (.ref C) "__setattr__" = some (some (.builtin "object.__setattr__"))) (mk : PySem.W.makesIn K C = true) (kc : PySem.W.keepIn K (.ref C) = true)
    (e1 : PySem.W.findIn K (.ref C) "__class__" = some (some (.builtin "object.__class__"))) (e2 : PySem.W.specialIn K (.builtin "object.__class__") "__get__" = some (some (.builtin "getset_descriptor.__get__"))) (e3 : PySem.W.takesIn K (.builtin "object.__class__") = some true) (e4 : PySem.W.mroIn K C (.type "object") = some true)
    (e5 : PySem.W.mroIn K C (.type "list") = some false) (e6 : PySem.W.mroIn K C (.type "tuple") = some false) (e7 : PySem.W.mroIn K C (.type "int") = some false) (e8 : PySem.W.mroIn K C (.type "str") = some false) (e9 : PySem.W.mroIn K C (.type "NoneType") = some false)
    (ne : PySem.W.findIn K (.ref C) "__ne__" = some (some (.builtin "object.__ne__")))
    (q0 : PySem.W.typeIn K (.ref C) = some (.type "type")) (q6 : PySem.W.notFirst K C (.type "list") = true)
    (n1 : PySem.W.findIn K (.ref C) "hears" = some none) (n2 : PySem.W.findIn K (.ref C) "size" = some none) (n3 : PySem.W.findIn K (.ref C) "first" = some none) (n4 : PySem.W.findIn K (.ref C) "rule" = some none)
    (z1 : PySem.W.nsIn K mainGlobals "len" = some none) (z2 : PySem.W.nsIn K mainGlobals "abs" = some none) (z3 : PySem.W.nsIn K mainGlobals "isinstance" = some none) (z4 : PySem.W.nsIn K mainGlobals "range" = some none) (z5 : PySem.W.nsIn K mainGlobals "min" = some none) (z6 : PySem.W.nsIn K mainGlobals "list" = some none) (z7 : PySem.W.nsIn K mainGlobals "tuple" = some none) (z8 : PySem.W.nsIn K mainGlobals "str" = some none) (z9 : PySem.W.nsIn K mainGlobals "repr" = some none) :
    ∃ fd : FuncData, (∀ (s : Shared) (v : Value), BindsTo s fd ⟨[v], []⟩ [("_law_script", v)]) ∧ ∀ base : Heap, K.In base → base.Ns mainGlobals mg → FnOk l.prog w K mg base CX0 5 fa fd ["_law_script"] (spLaw K) := by
  have e := hfa.symm.trans (PySem.W.mg_of X G a12)
  cases e
  have cl : Cls K C := ⟨pg, hd, po, sa⟩
  have T : RoomT K mg C := ⟨⟨cl, e1, e2, e3, e4⟩, n1, n2, n3, n4, PySem.W.mg_of X G aC, ⟨e5, e6, e7, e8, e9, not_first_self⟩, PySem.W.mg_none_of X G z3, PySem.W.mg_none_of X G z1, kit_no hd q0 rfl, kit_no hd q0 rfl, kit_no hd q0 rfl, kit_no hd q0 rfl, kit_no hd q0 rfl, q6⟩
  have F1 : FI K T1 T2 f1 _ := ⟨⟨oc1, od1, _, _, dc1, pm1, an1, cd1, ct1, sl1, rfl, l1, c1, .inr ⟨by simp, TT, _, [.ref T1], nT, rfl, lT, rfl, .cons rfl .nil⟩, .inr ⟨DD, rfl, fun q hq => by
    simp only [List.mem_cons, List.not_mem_nil, or_false] at hq
    rcases hq with rfl | rfl | rfl
    · exact ⟨_, d1, _, rfl⟩
    · exact ⟨_, d2, _, rfl⟩
    · exact ⟨_, d3, rfl⟩⟩⟩, k1⟩
  have R : RoomM K C T1 T2 f1 _ := ⟨⟨mk, a1, i1, kc⟩, F1, fun W => ⟨T1, [], rfl, .inr ⟨_, _, _, lA, rfl, rfl, by decide, .nil⟩, rfl⟩, fun W => ⟨T2, [.int 0], rfl, .inr ⟨_, _, _, lB, rfl, rfl, Nat.le_of_ble_eq_true rfl, .cons ⟨_, rfl⟩ .nil⟩, RDs.of_ints [0]⟩⟩
  have F2 := fun_mk (st := sAll) l2 c2 k2
  have F3 := fun_mk (st := sEq) l3 c3 k3
  have F4 := fun_mk (st := sLen) l4 c4 k4
  have F5 := fun_mk (st := sRepr) l5 c5 k5
  have F6 := fun_mk (st := sBag) l6 c6 k6
  have F7 := fun_mk (st := sTake) l7 c7 k7
  have F8 := fun_mk (st := sFour) l8 c8 k8
  have F9 := fun_mk (st := sMade) l9 c9 k9
  have F10 := fun_mk (st := sTold) l10 c10 k10
  have F11 := fun_mk (st := sLeft) l11 c11 k11
  have b2 := F2.binds (ps := ["self"]) fun _ _ _ _ _ _ us hl => match us, hl with | [_], _ => rfl
  have b3 := F3.binds (ps := ["self", "other"]) fun _ _ _ _ _ _ us hl => match us, hl with | [_, _], _ => rfl
  have b4 := F4.binds (ps := ["self"]) fun _ _ _ _ _ _ us hl => match us, hl with | [_], _ => rfl
  have b5 := F5.binds (ps := ["self"]) fun _ _ _ _ _ _ us hl => match us, hl with | [_], _ => rfl
  have b6 := F6.binds (ps := ["_law_script", "_law_at"]) fun _ _ _ _ _ _ us hl => match us, hl with | [_, _], _ => rfl
  have b7 := F7.binds (ps := ["_law_bag_here", "_law_many"]) fun _ _ _ _ _ _ us hl => match us, hl with | [_, _], _ => rfl
  have b8 := F8.binds (ps := ["_law_bag_here"]) fun _ _ _ _ _ _ us hl => match us, hl with | [_], _ => rfl
  have b9 := F9.binds (ps := ["_law_four_here", "_law_kind"]) fun _ _ _ _ _ _ us hl => match us, hl with | [_, _], _ => rfl
  have b10 := F10.binds (ps := ["_law_room"]) fun _ _ _ _ _ _ us hl => match us, hl with | [_], _ => rfl
  have b11 := F11.binds (ps := []) fun _ _ _ _ _ _ us hl => match us, hl with | [], _ => rfl
  have XX : RoomX K mg C f3 f2 f4 f5 f10 _ _ _ _ _ := ⟨⟨a3, i3⟩, ⟨a4, i4⟩, ⟨a5, i5⟩, ⟨a2, i2, k2⟩, ne, b3, b2, b4, b5, F3, F2, F4, F5, F10, ⟨PySem.W.mg_of X G a10, k10, b10⟩⟩
  have YY : LawX K mg f6 f7 f8 f9 f11 _ _ _ _ _ := ⟨F6, F7, F8, F9, F11, ⟨PySem.W.mg_of X G a6, k6, b6⟩, ⟨PySem.W.mg_of X G a7, k7, b7⟩, ⟨PySem.W.mg_of X G a8, k8, b8⟩, ⟨PySem.W.mg_of X G a9, k9, b9⟩, ⟨PySem.W.mg_of X G a11, k11, b11⟩⟩
  have Tb : Blt mg := ⟨PySem.W.mg_none_of X G z1, PySem.W.mg_none_of X G z2⟩
  have Tc : Bl2 mg := ⟨PySem.W.mg_none_of X G z4, PySem.W.mg_none_of X G z5, PySem.W.mg_none_of X G z6, PySem.W.mg_none_of X G z7, PySem.W.mg_none_of X G z8, PySem.W.mg_none_of X G z9⟩
  exact ⟨PySem.W.fnOf "law" "law" (defArgs sLaw) (defBody sLaw) (defScope sLaw) .none kV12 dc12 pm12 an12 cd12 ct12, fun s v => .of_eq rfl, fun base _ _ =>
    (ok_law (fun_mk (st := sLaw) l12 c12 k12) T R XX YY Tb Tc).imp law_imp⟩
theorem walk {l : PySem.W.OpenLaw} {q : Program} {loose : List Str} {XP : (Str → Option Value) → Heap → Prop} {YP : World → Heap → Prop} {d : DefRec} {K : Params → PySem.W.Frag} (hn : l.most = some 63) (hdf : d.params.defaults = [])
    (hY : ∀ (w : World) (h : Heap), YP w h → (K w.params).In h)
    (F : ∀ (w : World) (mg : Str → Option Value) (fa : Addr) (h : Heap), (K w.params).In h → h.Ns mainGlobals mg → mg d.name = some (.ref fa) →
      ∃ fd : FuncData, (∀ (s : Shared) (u : Value), BindsTo s fd ⟨[u], []⟩ [("_law_script", u)]) ∧ ∀ base : Heap, (K w.params).In base → base.Ns mainGlobals mg → FnOk l.prog w (K w.params) mg base CX0 5 fa fd ["_law_script"] (spLaw (K w.params))) :
    PySem.W.WalkO q loose XP YP l.row.toRowW d [] (fun f vs => PySem.call f vs) :=
  L2.walk_of (n := 63) (k := 5) (x := "_law_script") (CX := fun _ => CX0) (sp := fun w => spLaw (K w.params)) hn (by decide) hdf ⟨rfl, by decide, by decide⟩ hY F (fun _ _ a ns hl _ hS => ⟨a, ns, rfl, hS, hl, fun _ => rfl⟩) fun _ _ _ _ _ z => z
end K01
open PySem PySem.W PyProof.Rows in
set_option maxRecDepth 100000 in
set_option maxHeartbeats 0 in
theorem PySem.Challenge.cw_seenstands_k01_rooms_made_holds : PySem.Challenge.rw_seenstands_k01_rooms_made.Holds := by
  w_on; o_law; k_head; (case hw => w_witness2)
  k_fill
  refine K01.walk (l := PySem.Challenge.rw_seenstands_k01_rooms_made) rfl rfl (fun w h Y => PySem.W.kIn_of Y) ?F
  case F =>
    intro w mg fa h KX G hmg
    refine' K01.all_mk KX G hmg ?aC ?a1 ?i1 ?l1 ?c1 ?k1 ?lT ?lA ?d1 ?d2 ?d3 ?lB ?a2 ?i2 ?l2 ?c2 ?k2 ?a3 ?i3 ?l3 ?c3 ?k3 ?a4 ?i4 ?l4 ?c4 ?k4 ?a5 ?i5 ?l5 ?c5 ?k5 ?a6 ?l6 ?c6 ?k6 ?a7 ?l7 ?c7 ?k7 ?a8 ?l8 ?c8 ?k8 ?a9 ?l9 ?c9 ?k9 ?a10 ?l10 ?c10 ?k10 ?a11 ?l11 ?c11 ?k11 ?a12 ?l12 ?c12 ?k12 ?pg ?hd ?po ?sa ?mk ?kc ?e1 ?e2 ?e3 ?e4 ?e5 ?e6 ?e7 ?e8 ?e9 ?ne ?q0 ?q6 ?n1 ?n2 ?n3 ?n4 ?z1 ?z2 ?z3 ?z4 ?z5 ?z6 ?z7 ?z8 ?z9
    (case aC => k_is)
    (case a1 => k_is)
    (case i1 => k_is)
    (case l1 => k_is)
    (case c1 => k_is)
    (case k1 => k_is)
    (case lT => k_is)
    (case lA => k_is)
    (case d1 => k_is)
    (case d2 => k_is)
    (case d3 => k_is)
    (case lB => k_is)
    (case a2 => k_is)
    (case i2 => k_is)
    (case l2 => k_is)
    (case c2 => k_is)
    (case k2 => k_is)
    (case a3 => k_is)
    (case i3 => k_is)
    (case l3 => k_is)
    (case c3 => k_is)
    (case k3 => k_is)
    (case a4 => k_is)
    (case i4 => k_is)
    (case l4 => k_is)
    (case c4 => k_is)
    (case k4 => k_is)
    (case a5 => k_is)
    (case i5 => k_is)
    (case l5 => k_is)
    (case c5 => k_is)
    (case k5 => k_is)
    (case a6 => k_is)
    (case l6 => k_is)
    (case c6 => k_is)
    (case k6 => k_is)
    (case a7 => k_is)
    (case l7 => k_is)
    (case c7 => k_is)
    (case k7 => k_is)
    (case a8 => k_is)
    (case l8 => k_is)
    (case c8 => k_is)
    (case k8 => k_is)
    (case a9 => k_is)
    (case l9 => k_is)
    (case c9 => k_is)
    (case k9 => k_is)
    (case a10 => k_is)
    (case l10 => k_is)
    (case c10 => k_is)
    (case k10 => k_is)
    (case a11 => k_is)
    (case l11 => k_is)
    (case c11 => k_is)
    (case k11 => k_is)
    (case a12 => k_is)
    (case l12 => k_is)
    (case c12 => k_is)
    (case k12 => k_is)
    (case pg => k_is)
    (case hd => k_is)
    (case po => k_is)
    (case sa => k_is)
    (case mk => k_is)
    (case kc => k_is)
    (case e1 => k_is)
    (case e2 => k_is)
    (case e3 => k_is)
    (case e4 => k_is)
    (case e5 => k_is)
    (case e6 => k_is)
    (case e7 => k_is)
    (case e8 => k_is)
    (case e9 => k_is)
    (case ne => k_is)
    (case q0 => k_is)
    (case q6 => k_is)
    (case n1 => k_is)
    (case n2 => k_is)
    (case n3 => k_is)
    (case n4 => k_is)
    (case z1 => k_is)
    (case z2 => k_is)
    (case z3 => k_is)
    (case z4 => k_is)
    (case z5 => k_is)
    (case z6 => k_is)
    (case z7 => k_is)
    (case z8 => k_is)
    (case z9 => k_is)
#print axioms PySem.Challenge.cw_seenstands_k01_rooms_made_holds
