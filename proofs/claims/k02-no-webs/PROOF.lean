import PyProof.Rows.All
import Wide.All
import OpenK.AllK
import Wide.FinOn
import HandS.ForMost
import HandS.ForExc
import HandS.Defaults
import HandS.MakeKw
import HandS.MakeKwOnly
import HandS.IsInst
import HandS.Lambda
import HandS.FStr
import PyProof.InstEq
import HandS.NamedTupSort
import HandS.OwnEq
import HandS.SlotsOwn
import HandS.ExcInit
import HandS.ExcField
import HandS.ExcIs
import HandS.TryOnly
import HandS.CallSlots
import KE.KExcInit
import KE.KExcIs
import HandS.EndTab
import HandS.Nested
import HandS.Zip
import HandS.SetFor
import HandS.Conv
import HandS.TupAny
import HandS.TupMul
import PyProof.ReprRoads
import KE.GoesMore
import HandS.Style
import HandS.Steps
import PySem.Challenge.RW_seenstands_k02_no_webs
set_option Elab.async false
set_option linter.all false
set_option maxRecDepth 100000
set_option maxHeartbeats 4000000
/-! Al: an abstract layer: data as trees, mutable objects by numbers. -/
namespace Al
open PySem L2
/-- the code objects that make lambdas: the code object, its table, the lambdas' name -/
class TabList where l : List (Addr × Addr × Str)
variable [TabList]

inductive D where
  | non | bl (b : Bool) | int (i : Int) | str (s : Str) | ty (n : String) | adr (a : Addr)
  | tup (l : List D) | lst (l : List D) | scr (l : List D) | ins (C : Addr) (ns : List Str) (l : List D)
  | clo (a : Addr) (aux : List (Addr × HO)) | dT (ks : List (List Key)) (l : List D) | dK (ks : List Key) (l : List D) | exc (a dx C : Addr) (ns : List Str) (l : List D)

mutual
def RD (K : PySem.W.Frag) (W : Hp) : D → V → Prop
  | .non, v => v = .non
  | .bl b, v => v = .bl b
  | .int i, v => v = .int i
  | .str s, v => v = .str s
  | .ty n, v => v = .ty n
  | .adr a, v => v = .ref a
  | .tup l, v => ∃ a vs, v = .ref a ∧ SqT K W a vs ∧ RDs K W l vs
  | .lst l, v => ∃ a vs, v = .ref a ∧ W a = some (.lst vs) ∧ RDs K W l vs
  | .scr l, v => ∃ a vs, v = .ref a ∧ SqL K W a vs ∧ RDs K W l vs
  | .ins C ns l, v => ∃ a dx vs, v = .ref a ∧ W a = some (.ins C dx (ns.zip vs)) ∧ ns.length = l.length ∧ RDs K W l vs
  | .clo a aux, v => v = .ref a ∧ ∀ p ∈ aux, W p.1 = some p.2
  | .dT ks l, v => ∃ a vs, v = .ref a ∧ W a = some (.dT (ks.zip vs)) ∧ ks.length = l.length ∧ RDs K W l vs
  | .dK ks l, v => ∃ a vs, v = .ref a ∧ W a = some (.dK (ks.zip vs)) ∧ ks.length = l.length ∧ RDs K W l vs
  | .exc a dx _ ns l, v => ∃ vs, v = .ref a ∧ W dx = some (.xd (ns.zip vs)) ∧ ns.length = l.length ∧ RDs K W l vs
def RDs (K : PySem.W.Frag) (W : Hp) : List D → List V → Prop
  | [], vs => vs = []
  | d :: l, vs => ∃ v r, vs = v :: r ∧ RD K W d v ∧ RDs K W l r
end
/-- what a slot holds: data, or the k-th mutable object -/
inductive AV where
  | d (x : D) | m (k : Nat)
/-- a mutable object -/
inductive MO where
  | lst (l : List D) | ins (C : Addr) (ns : List Str) (l : List AV) | ls (l : List AV) | dT (ks : List (List Key)) (l : List AV) | dK (ks : List Key) (l : List AV)

def AV.isD : AV → Bool | .d _ => true | .m _ => false
def MO.isD : MO → Bool | .lst _ => true | .ins _ _ l => l.all AV.isD | .ls l => l.all AV.isD | .dT _ l => l.all AV.isD | .dK _ l => l.all AV.isD
def AV.below (n : Nat) : AV → Bool | .d _ => true | .m k => decide (k < n)
def MO.below (n : Nat) : MO → Bool | .lst _ => true | .ins _ _ l => l.all (AV.below n) | .ls l => l.all (AV.below n) | .dT _ l => l.all (AV.below n) | .dK _ l => l.all (AV.below n)

section
variable {K : PySem.W.Frag} {W W' H H' : Hp} {μ : List Addr}
theorem sqt_mono (e : Same W W') {a : Addr} {xs : List V} (h : SqT K W a xs) : SqT K W' a xs := by
  rcases h with (h | ⟨o, h⟩) | h
  · exact .inl (.inl (e _ _ h))
  · exact .inl (.inr ⟨o, e _ _ h⟩)
  · exact .inr h
mutual
theorem RD.mono (e : Same W W') : ∀ {d : D} {v : V}, RD K W d v → RD K W' d v
  | .non, _, h => h
  | .bl _, _, h => h
  | .int _, _, h => h
  | .str _, _, h => h
  | .ty _, _, h => h
  | .adr _, _, h => h
  | .tup l, _, ⟨a, vs, e1, h, r⟩ => ⟨a, vs, e1, sqt_mono e h, RDs.mono e r⟩
  | .lst l, _, ⟨a, vs, e1, h, r⟩ => ⟨a, vs, e1, e _ _ h, RDs.mono e r⟩
  | .scr l, _, ⟨a, vs, e1, h, r⟩ => ⟨a, vs, e1, e.seq h, RDs.mono e r⟩
  | .ins C ns l, _, ⟨a, dx, vs, e1, h, n, r⟩ => ⟨a, dx, vs, e1, e _ _ h, n, RDs.mono e r⟩
  | .clo a aux, _, ⟨e1, h⟩ => ⟨e1, fun p hp => e _ _ (h p hp)⟩
  | .dT ks l, _, ⟨a, vs, e1, h, n, r⟩ => ⟨a, vs, e1, e _ _ h, n, RDs.mono e r⟩
  | .dK ks l, _, ⟨a, vs, e1, h, n, r⟩ => ⟨a, vs, e1, e _ _ h, n, RDs.mono e r⟩
  | .exc a dx C ns l, _, ⟨vs, e1, h, n, r⟩ => ⟨vs, e1, e _ _ h, n, RDs.mono e r⟩
theorem RDs.mono (e : Same W W') : ∀ {l : List D} {vs : List V}, RDs K W l vs → RDs K W' l vs
  | [], _, h => h
  | d :: l, _, ⟨v, r, e1, h, t⟩ => ⟨v, r, e1, RD.mono e h, RDs.mono e t⟩
end
theorem RDs.length : ∀ {l : List D} {vs : List V}, RDs K W l vs → l.length = vs.length
  | [], _, h => by cases h; rfl
  | d :: l, _, ⟨v, r, e1, h, t⟩ => by subst e1; simp [RDs.length t]
theorem RDs.get : ∀ {l : List D} {vs : List V} {i : Nat} {d : D}, RDs K W l vs → l[i]? = some d → ∃ v, vs[i]? = some v ∧ RD K W d v
  | [], _, _, _, _, h => by simp at h
  | d :: l, _, 0, _, ⟨v, r, e1, h, t⟩, q => by subst e1; simp at q; subst q; exact ⟨v, rfl, h⟩
  | d :: l, _, i + 1, _, ⟨v, r, e1, h, t⟩, q => by
    subst e1
    obtain ⟨v', a, b⟩ := RDs.get (i := i) t (by simpa using q)
    exact ⟨v', by simpa using a, b⟩
theorem RDs.back : ∀ {l : List D} {vs : List V} {i : Nat} {v : V}, RDs K W l vs → vs[i]? = some v → ∃ d, l[i]? = some d ∧ RD K W d v
  | [], _, _, _, h, q => by cases h; simp at q
  | d :: l, _, 0, _, ⟨v, r, e1, h, t⟩, q => by subst e1; simp at q; subst q; exact ⟨d, rfl, h⟩
  | d :: l, _, i + 1, _, ⟨v, r, e1, h, t⟩, q => by
    subst e1
    obtain ⟨v', a, b⟩ := RDs.back (i := i) t (by simpa using q)
    exact ⟨v', by simpa using a, b⟩
theorem RDs.append : ∀ {l l' : List D} {vs vs' : List V}, RDs K W l vs → RDs K W l' vs' → RDs K W (l ++ l') (vs ++ vs')
  | [], _, _, _, h, q => by cases h; exact q
  | d :: l, _, _, _, ⟨v, r, e1, h, t⟩, q => by subst e1; exact ⟨v, r ++ _, rfl, h, RDs.append t q⟩
theorem RDs.one {d : D} {v : V} (h : RD K W d v) : RDs K W [d] [v] := ⟨v, [], rfl, h, rfl⟩
theorem RDs.set {d : D} {v : V} (h : RD K W d v) : ∀ {l : List D} {vs : List V} (i : Nat), RDs K W l vs → RDs K W (l.set i d) (vs.set i v)
  | [], _, _, q => by cases q; exact rfl
  | x :: l, _, 0, ⟨y, r, e1, a, t⟩ => by subst e1; exact ⟨v, r, rfl, h, t⟩
  | x :: l, _, i + 1, ⟨y, r, e1, a, t⟩ => by subst e1; exact ⟨y, _, rfl, a, RDs.set h i t⟩
theorem RDs.take : ∀ {l : List D} {vs : List V} (i : Nat), RDs K W l vs → RDs K W (l.take i) (vs.take i)
  | [], _, _, q => by cases q; simp [RDs]
  | x :: l, _, 0, ⟨y, r, e1, a, t⟩ => by subst e1; exact rfl
  | x :: l, _, i + 1, ⟨y, r, e1, a, t⟩ => by subst e1; exact ⟨y, _, rfl, a, RDs.take i t⟩
theorem RDs.drop : ∀ {l : List D} {vs : List V} (i : Nat), RDs K W l vs → RDs K W (l.drop i) (vs.drop i)
  | [], _, _, q => by cases q; simp [RDs]
  | x :: l, _, 0, ⟨y, r, e1, a, t⟩ => by subst e1; exact ⟨y, _, rfl, a, t⟩
  | x :: l, _, i + 1, ⟨y, r, e1, a, t⟩ => by subst e1; exact RDs.drop i t
theorem RDs.ints : ∀ {ns : List Int} {vs : List V}, RDs K W (ns.map D.int) vs → vs = ns.map V.int
  | [], _, h => h
  | n :: ns, _, ⟨v, r, e1, h, t⟩ => by subst e1; cases h; rw [RDs.ints t]; rfl
theorem RDs.of_ints : ∀ (ns : List Int), RDs K W (ns.map D.int) (ns.map V.int)
  | [] => rfl
  | n :: ns => ⟨_, _, rfl, rfl, RDs.of_ints ns⟩
theorem RDs.strs : ∀ {ns : List Str} {vs : List V}, RDs K W (ns.map D.str) vs → vs = ns.map V.str
  | [], _, h => h
  | n :: ns, _, ⟨v, r, e1, h, t⟩ => by subst e1; cases h; rw [RDs.strs t]; rfl
theorem RDs.bls : ∀ {ns : List Bool} {vs : List V}, RDs K W (ns.map D.bl) vs → vs = ns.map V.bl
  | [], _, h => h
  | n :: ns, _, ⟨v, r, e1, h, t⟩ => by subst e1; cases h; rw [RDs.bls t]; rfl

def RA (K : PySem.W.Frag) (W : Hp) (μ : List Addr) : AV → V → Prop
  | .d x, v => RD K W x v
  | .m k, v => ∃ a, μ[k]? = some a ∧ v = .ref a
theorem RA.mono {μ' : List Addr} (e : Same W W') {x : AV} {v : V} (h : RA K W μ x v) : RA K W' (μ ++ μ') x v := by
  cases x with
  | d x => exact RD.mono e h
  | m k =>
    obtain ⟨a, h1, h2⟩ := h
    exact ⟨a, by rw [List.getElem?_append_left (List.getElem?_eq_some_iff.mp h1).1]; exact h1, h2⟩
def RAs (K : PySem.W.Frag) (W : Hp) (μ : List Addr) : List AV → List V → Prop
  | [], vs => vs = []
  | x :: l, vs => ∃ v r, vs = v :: r ∧ RA K W μ x v ∧ RAs K W μ l r
theorem RAs.mono {μ' : List Addr} (e : Same W W') : ∀ {l : List AV} {vs : List V}, RAs K W μ l vs → RAs K W' (μ ++ μ') l vs
  | [], _, h => h
  | d :: l, _, ⟨v, r, e1, h, t⟩ => ⟨v, r, e1, RA.mono e h, RAs.mono e t⟩
theorem RAs.length : ∀ {l : List AV} {vs : List V}, RAs K W μ l vs → l.length = vs.length
  | [], _, h => by cases h; rfl
  | d :: l, _, ⟨v, r, e1, h, t⟩ => by subst e1; simp [RAs.length t]
theorem RAs.append : ∀ {l l' : List AV} {vs vs' : List V}, RAs K W μ l vs → RAs K W μ l' vs' → RAs K W μ (l ++ l') (vs ++ vs')
  | [], _, _, _, h, q => by cases h; exact q
  | d :: l, _, _, _, ⟨v, r, e1, h, t⟩, q => by subst e1; exact ⟨v, r ++ _, rfl, h, RAs.append t q⟩
theorem RAs.of_ds : ∀ {l : List D} {vs : List V}, RAs K W μ (l.map AV.d) vs → RDs K W l vs
  | [], _, h => h
  | d :: l, _, ⟨v, r, e1, h, t⟩ => ⟨v, r, e1, h, RAs.of_ds t⟩
theorem RAs.get : ∀ {l : List AV} {vs : List V} {i : Nat} {d : AV}, RAs K W μ l vs → l[i]? = some d → ∃ v, vs[i]? = some v ∧ RA K W μ d v
  | [], _, _, _, _, h => by simp at h
  | d :: l, _, 0, _, ⟨v, r, e1, h, t⟩, q => by subst e1; simp at q; subst q; exact ⟨v, rfl, h⟩
  | d :: l, _, i + 1, _, ⟨v, r, e1, h, t⟩, q => by
    subst e1
    obtain ⟨v', a, b⟩ := RAs.get (i := i) t (by simpa using q)
    exact ⟨v', by simpa using a, b⟩

def OR (K : PySem.W.Frag) (W : Hp) (μ : List Addr) (H : Hp) : MO → Addr → Prop
  | .lst l, a => ∃ vs, H a = some (.lst vs) ∧ RDs K W l vs
  | .ins C ns l, a => ∃ dx vs, H a = some (.ins C dx (ns.zip vs)) ∧ ns.length = l.length ∧ RAs K W μ l vs
  | .ls l, a => ∃ vs, H a = some (.lst vs) ∧ RAs K W μ l vs
  | .dT ks l, a => ∃ vs, H a = some (.dT (ks.zip vs)) ∧ ks.length = l.length ∧ RAs K W μ l vs
  | .dK ks l, a => ∃ vs, H a = some (.dK (ks.zip vs)) ∧ ks.length = l.length ∧ RAs K W μ l vs
theorem OR.mono {μ' : List Addr} (e : Same W W') {o : MO} {a : Addr} (ha : ∀ u, H a = some u → H' a = some u) (h : OR K W μ H o a) : OR K W' (μ ++ μ') H' o a := by
  cases o with
  | lst l =>
    obtain ⟨vs, h1, h2⟩ := h
    exact ⟨vs, ha _ h1, RDs.mono e h2⟩
  | ins C ns l =>
    obtain ⟨dx, vs, h1, h2, h3⟩ := h
    exact ⟨dx, vs, ha _ h1, h2, RAs.mono e h3⟩
  | ls l =>
    obtain ⟨vs, h1, h3⟩ := h
    exact ⟨vs, ha _ h1, RAs.mono e h3⟩
  | dT ks l =>
    obtain ⟨vs, h1, h2, h3⟩ := h
    exact ⟨vs, ha _ h1, h2, RAs.mono e h3⟩
  | dK ks l =>
    obtain ⟨vs, h1, h2, h3⟩ := h
    exact ⟨vs, ha _ h1, h2, RAs.mono e h3⟩
theorem OR.live {o : MO} {a : Addr} (h : OR K W μ H o a) : ∃ u, H a = some u := by
  cases o with
  | lst l => obtain ⟨vs, h1, _⟩ := h; exact ⟨_, h1⟩
  | ins C ns l => obtain ⟨dx, vs, h1, _⟩ := h; exact ⟨_, h1⟩
  | ls l => obtain ⟨vs, h1, _⟩ := h; exact ⟨_, h1⟩
  | dT ks l => obtain ⟨vs, h1, _⟩ := h; exact ⟨_, h1⟩
  | dK ks l => obtain ⟨vs, h1, _⟩ := h; exact ⟨_, h1⟩
/-- what stands at a mutable object is no table and no other thing -/
def Plain (u : HO) : Prop := (∀ ps, u ≠ .tbl ps) ∧ ∀ φ, u ≠ .ext φ
theorem OR.plain {o : MO} {a : Addr} {u : HO} (h : OR K W μ H o a) (hu : H a = some u) : Plain u := by
  cases o with
  | lst l => obtain ⟨vs, h1, _⟩ := h; rw [h1] at hu; cases hu; exact ⟨(fun _ z => nomatch z), (fun _ z => nomatch z)⟩
  | ins C ns l => obtain ⟨dx, vs, h1, _⟩ := h; rw [h1] at hu; cases hu; exact ⟨(fun _ z => nomatch z), (fun _ z => nomatch z)⟩
  | ls l => obtain ⟨vs, h1, _⟩ := h; rw [h1] at hu; cases hu; exact ⟨(fun _ z => nomatch z), (fun _ z => nomatch z)⟩
  | dT ks l => obtain ⟨vs, h1, _⟩ := h; rw [h1] at hu; cases hu; exact ⟨(fun _ z => nomatch z), (fun _ z => nomatch z)⟩
  | dK ks l => obtain ⟨vs, h1, _⟩ := h; rw [h1] at hu; cases hu; exact ⟨(fun _ z => nomatch z), (fun _ z => nomatch z)⟩
/-- the tables of code objects -/
def Tabs (H : Hp) : Prop := ∀ p ∈ TabList.l, LamX.TabS H p.2.1 p.2.2
theorem Tabs.keep (t : Tabs H) (e : ∀ b o, H b = some o → ¬ Plain o → H' b = some o) : Tabs H' := fun p hp => by
  obtain ⟨ps, h1, h2, h3⟩ := t p hp
  refine ⟨ps, e _ _ h1 (fun z => z.1 ps rfl), h2, fun pos cv hc => ?_⟩
  obtain ⟨c, e1, e2⟩ := h3 pos cv hc
  exact ⟨c, e1, e _ _ e2 (fun z => z.2 _ rfl)⟩
theorem Tabs.ext (t : Tabs H) (e : Same H H') : Tabs H' := t.keep fun b o h _ => e b o h

/-- the heap as it is seen: W what never changes any more, μ where the mutable objects stand, M what they hold -/
structure Sim (K : PySem.W.Frag) (W : Hp) (μ : List Addr) (M : List MO) (H : Hp) : Prop where
  sub : Same W H
  nd : μ.Nodup
  len : μ.length = M.length
  out : ∀ a ∈ μ, W a = none
  ob : ∀ (k : Nat) (a : Addr) (o : MO), μ[k]? = some a → M[k]? = some o → OR K W μ H o a
  tab : Tabs H
  tw : ∀ p ∈ TabList.l, W p.2.1 = none
theorem Sim.plain {M : List MO} (S : Sim K W μ M H) {a : Addr} {u : HO} (h : a ∈ μ) (hu : H a = some u) : Plain u := by
  obtain ⟨k, hk, e⟩ := List.getElem_of_mem h
  have hm : k < M.length := by rw [← S.len]; exact hk
  exact (S.ob k a M[k] (by rw [← e]; exact List.getElem?_eq_getElem hk) (List.getElem?_eq_getElem hm)).plain hu
theorem Sim.live {M : List MO} (S : Sim K W μ M H) {a : Addr} (h : a ∈ μ) : ∃ u, H a = some u := by
  obtain ⟨k, hk, e⟩ := List.getElem_of_mem h
  have hm : k < M.length := by rw [← S.len]; exact hk
  exact (S.ob k a M[k] (by rw [← e]; exact List.getElem?_eq_getElem hk) (List.getElem?_eq_getElem hm)).live

structure Base where
  W0 : Hp
  μ0 : List Addr
  H0 : Hp
structure Ok (B : Base) (W : Hp) (μ : List Addr) (H : Hp) : Prop where
  wsub : Same B.W0 W
  wnew : ∀ a o, W a = some o → B.W0 a = some o ∨ B.H0 a = none ∨ ¬ Plain o
  fr : ∀ a o, B.H0 a = some o → a ∉ B.μ0 → (∀ ps, o ≠ .tbl ps) → H a = some o
  pre : ∃ ext, μ = B.μ0 ++ ext ∧ ∀ a ∈ ext, B.H0 a = none
  live : ∀ a, H a = none → B.H0 a = none
theorem Ok.refl : Ok ⟨W, μ, H⟩ W μ H := ⟨fun _ _ h => h, fun _ _ h => .inl h, fun _ _ h _ _ => h, ⟨[], by simp, by simp⟩, fun _ h => h⟩
/-- behind a step from here: Ok to Ok -/
theorem Ok.trans {B : Base} {μ' μs : List Addr} (a : Ok B W μ H) (hs : ∀ x ∈ μs, x ∈ μ) (b : Ok ⟨W, μs, H⟩ W' μ' H') {e : List Addr} (he : μ' = μs ++ e) : Ok B W' (μ ++ e) H' := by
  obtain ⟨ext, e1, e2⟩ := a.pre
  obtain ⟨ext', e3, e4⟩ := b.pre
  have : e = ext' := List.append_cancel_left (he.symm.trans e3)
  subst this
  refine ⟨a.wsub.trans b.wsub, fun x o h => ?_, fun x o h hx ht => ?_, ⟨ext ++ e, by rw [e1, List.append_assoc], fun x hx => ?_⟩, fun x h => a.live x (b.live x h)⟩
  · rcases b.wnew x o h with h | h | h
    · exact a.wnew x o h
    · exact .inr (.inl (a.live x h))
    · exact .inr (.inr h)
  · refine b.fr x o (a.fr x o h hx ht) (fun hm => ?_) ht
    have hm := hs x hm
    rw [e1] at hm
    rcases List.mem_append.mp hm with hm | hm
    · exact hx hm
    · rw [e2 x hm] at h; cases h
  · rcases List.mem_append.mp hx with hx | hx
    · exact e2 x hx
    · exact a.live x (e4 x hx)
end

abbrev AEnv := List (Option AV)
def RE (K : PySem.W.Frag) (W : Hp) (μ : List Addr) (σ : AEnv) (τ : L2.St) : Prop := σ.length = τ.length ∧ ∀ (i : Nat) (x : AV), σ[i]? = some (some x) → ∃ v, τ[i]? = some (some v) ∧ RA K W μ x v
theorem RE.mono {K : PySem.W.Frag} {W W' : Hp} {μ μ' : List Addr} {σ : AEnv} {τ : L2.St} (e : Same W W') (h : RE K W μ σ τ) : RE K W' (μ ++ μ') σ τ :=
  ⟨h.1, fun i x q => let ⟨v, a, b⟩ := h.2 i x q; ⟨v, a, RA.mono e b⟩⟩
theorem RE.set {K : PySem.W.Frag} {W : Hp} {μ : List Addr} {σ : AEnv} {τ : L2.St} {x : AV} {v : V} (h : RE K W μ σ τ) (r : RA K W μ x v) (i : Nat) : RE K W μ (σ.set i (some x)) (τ.set i (some v)) := by
  refine ⟨by simp [h.1], fun j y q => ?_⟩
  by_cases hj : i = j
  · subst hj
    rw [List.getElem?_set] at q
    simp only [if_true] at q
    by_cases hl : i < σ.length
    · rw [if_pos hl] at q
      cases q
      exact ⟨v, by rw [List.getElem?_set]; simp [← h.1, hl], r⟩
    · rw [if_neg hl] at q; cases q
  · rw [List.getElem?_set_ne hj] at q
    obtain ⟨w, a, b⟩ := h.2 j y q
    exact ⟨w, by rw [List.getElem?_set_ne hj]; exact a, b⟩
theorem RE.setN {K : PySem.W.Frag} {W : Hp} {μ : List Addr} {σ : AEnv} {τ : L2.St} {u : Option V} (h : RE K W μ σ τ) (i : Nat) : RE K W μ (σ.set i none) (τ.set i u) := by
  refine ⟨by simp [h.1], fun j y q => ?_⟩
  by_cases hj : i = j
  · subst hj
    rw [List.getElem?_set] at q
    simp only [if_true] at q
    split at q <;> cases q
  · rw [List.getElem?_set_ne hj] at q
    obtain ⟨w, a, b⟩ := h.2 j y q
    exact ⟨w, by rw [List.getElem?_set_ne hj]; exact a, b⟩

/-- behind this: the state W μ M H of base B, beyond W1 μ1 -/
structure Go (B : Base) (K : PySem.W.Frag) (W1 : Hp) (μ1 : List Addr) (W : Hp) (μ : List Addr) (M : List MO) (H : Hp) : Prop where
  ok : Ok B W μ H
  sim : Sim K W μ M H
  wext : Same W1 W
  mext : ∃ e, μ = μ1 ++ e
theorem Go.trans {B : Base} {K : PySem.W.Frag} {W1 W2 W : Hp} {μ1 μ2 μ : List Addr} {M M' : List MO} {H H' : Hp} (a : Go B K W1 μ1 W2 μ2 M H) (b : Go B K W2 μ2 W μ M' H') : Go B K W1 μ1 W μ M' H' :=
  ⟨b.ok, b.sim, a.wext.trans b.wext, let ⟨e, h⟩ := a.mext; let ⟨f, g⟩ := b.mext; ⟨e ++ f, by rw [g, h, List.append_assoc]⟩⟩
theorem Go.refl {B : Base} {K : PySem.W.Frag} {W : Hp} {μ : List Addr} {M : List MO} {H : Hp} (o : Ok B W μ H) (s : Sim K W μ M H) : Go B K W μ W μ M H := ⟨o, s, fun _ _ h => h, ⟨[], by simp⟩⟩
theorem Go.ra {B : Base} {K : PySem.W.Frag} {W1 W : Hp} {μ1 μ : List Addr} {M : List MO} {H : Hp} (f : Go B K W1 μ1 W μ M H) {x : AV} {v : V} (h : RA K W1 μ1 x v) : RA K W μ x v := by
  obtain ⟨e, rfl⟩ := f.mext
  exact RA.mono f.wext h
theorem Go.ras {B : Base} {K : PySem.W.Frag} {W1 W : Hp} {μ1 μ : List Addr} {M : List MO} {H : Hp} (f : Go B K W1 μ1 W μ M H) {x : List AV} {v : List V} (h : RAs K W1 μ1 x v) : RAs K W μ x v := by
  obtain ⟨e, rfl⟩ := f.mext
  exact RAs.mono f.wext h
theorem Go.re {B : Base} {K : PySem.W.Frag} {W1 W : Hp} {μ1 μ : List Addr} {M : List MO} {H : Hp} (f : Go B K W1 μ1 W μ M H) {σ : AEnv} {τ : L2.St} (h : RE K W1 μ1 σ τ) : RE K W μ σ τ := by
  obtain ⟨e, rfl⟩ := f.mext
  exact RE.mono f.wext h

section
variable (B : Base) (K : PySem.W.Frag)
/-- an expression, a test, arguments, a call on values, an operation on two values, a target, a statement, seen so -/
def AE (te : TE) (σ : AEnv) (M : List MO) (Φ : AV → List MO → Prop) : Prop := ∀ W μ H τ, Ok B W μ H → Sim K W μ M H → RE K W μ σ τ → ∀ Q : VK,
  (∀ x M' W' μ' H' v, Φ x M' → Go B K W μ W' μ' M' H' → RA K W' μ' x v → Q v H') → te τ H Q
def AT (tt : TT) (σ : AEnv) (M : List MO) (Φ : Bool → List MO → Prop) : Prop := ∀ W μ H τ, Ok B W μ H → Sim K W μ M H → RE K W μ σ τ → ∀ Q : Bool → Hp → Prop,
  (∀ b M' W' μ' H', Φ b M' → Go B K W μ W' μ' M' H' → Q b H') → tt τ H Q
def AA (ta : TA) (σ : AEnv) (M : List MO) (Φ : List AV → List MO → Prop) : Prop := ∀ W μ H τ, Ok B W μ H → Sim K W μ M H → RE K W μ σ τ → ∀ Q : List V → Hp → Prop,
  (∀ x M' W' μ' H' v, Φ x M' → Go B K W μ W' μ' M' H' → RAs K W' μ' x v → Q v H') → ta τ H Q
def AR (r : R2) (x y : AV) (M : List MO) (Φ : AV → List MO → Prop) : Prop := ∀ W μ H u w, Ok B W μ H → Sim K W μ M H → RA K W μ x u → RA K W μ y w → ∀ Q : VK,
  (∀ z M' W' μ' H' v, Φ z M' → Go B K W μ W' μ' M' H' → RA K W' μ' z v → Q v H') → r u w H Q
def AU (r : V → Hp → VK → Prop) (x : AV) (M : List MO) (Φ : AV → List MO → Prop) : Prop := ∀ W μ H u, Ok B W μ H → Sim K W μ M H → RA K W μ x u → ∀ Q : VK,
  (∀ z M' W' μ' H' v, Φ z M' → Go B K W μ W' μ' M' H' → RA K W' μ' z v → Q v H') → r u H Q
def AC (r : List V → Hp → VK → Prop) (xs : List AV) (M : List MO) (Φ : AV → List MO → Prop) : Prop := ∀ W μ H us, Ok B W μ H → Sim K W μ M H → RAs K W μ xs us → ∀ Q : VK,
  (∀ z M' W' μ' H' v, Φ z M' → Go B K W μ W' μ' M' H' → RA K W' μ' z v → Q v H') → r us H Q
def AM (r : V → List V → Hp → VK → Prop) (x : AV) (xs : List AV) (M : List MO) (Φ : AV → List MO → Prop) : Prop := ∀ W μ H u us, Ok B W μ H → Sim K W μ M H → RA K W μ x u → RAs K W μ xs us → ∀ Q : VK,
  (∀ z M' W' μ' H' v, Φ z M' → Go B K W μ W' μ' M' H' → RA K W' μ' z v → Q v H') → r u us H Q
def AG (g : TG) (x : AV) (σ : AEnv) (M : List MO) (Φ : AEnv → List MO → Prop) : Prop := ∀ W μ H τ v, Ok B W μ H → Sim K W μ M H → RE K W μ σ τ → RA K W μ x v → ∀ Q : L2.St → Hp → Prop,
  (∀ σ' M' W' μ' H' τ', Φ σ' M' → Go B K W μ W' μ' M' H' → RE K W' μ' σ' τ' → Q τ' H') → g v τ H Q
def AGs (g : TGs) (xs : List AV) (σ : AEnv) (M : List MO) (Φ : AEnv → List MO → Prop) : Prop := ∀ W μ H τ vs, Ok B W μ H → Sim K W μ M H → RE K W μ σ τ → RAs K W μ xs vs → ∀ Q : L2.St → Hp → Prop,
  (∀ σ' M' W' μ' H' τ', Φ σ' M' → Go B K W μ W' μ' M' H' → RE K W' μ' σ' τ' → Q τ' H') → g vs τ H Q
structure AEnds where
  nx : AEnv → List MO → Prop
  rt : AV → List MO → Prop
  bk : AEnv → List MO → Prop := fun _ _ => False
  ct : AEnv → List MO → Prop := fun _ _ => False
/-- W1 μ1: at least this is known -/
structure Fits (W1 : Hp) (μ1 : List Addr) (Φ : AEnds) (E : Ends) : Prop where
  nx : ∀ σ M W μ H τ, Φ.nx σ M → Go B K W1 μ1 W μ M H → RE K W μ σ τ → E.nx τ H
  rt : ∀ x M W μ H v, Φ.rt x M → Go B K W1 μ1 W μ M H → RA K W μ x v → E.rt v H
  bk : ∀ σ M W μ H τ, Φ.bk σ M → Go B K W1 μ1 W μ M H → RE K W μ σ τ → E.bk τ H
  ct : ∀ σ M W μ H τ, Φ.ct σ M → Go B K W1 μ1 W μ M H → RE K W μ σ τ → E.ct τ H
def AS (ts : TS) (σ : AEnv) (M : List MO) (Φ : AEnds) : Prop := ∀ W μ H τ, Ok B W μ H → Sim K W μ M H → RE K W μ σ τ → ∀ E : Ends, Fits B K W μ Φ E → ts E τ H
end
theorem Fits.mono {B : Base} {K : PySem.W.Frag} {W1 W : Hp} {μ1 μ : List Addr} {M : List MO} {H : Hp} {Φ : AEnds} {E : Ends} (f : Fits B K W1 μ1 Φ E) (a : Go B K W1 μ1 W μ M H) : Fits B K W μ Φ E :=
  ⟨fun σ M W' μ' H' τ p b r => f.nx σ M W' μ' H' τ p (a.trans b) r, fun x M W' μ' H' v p b r => f.rt x M W' μ' H' v p (a.trans b) r, fun σ M W' μ' H' τ p b r => f.bk σ M W' μ' H' τ p (a.trans b) r, fun σ M W' μ' H' τ p b r => f.ct σ M W' μ' H' τ p (a.trans b) r⟩
end Al

namespace Al
open PySem L2
variable [Al.TabList]
section
variable {B : Base} {K : PySem.W.Frag} {σ : AEnv} {M : List MO} {Φ : AV → List MO → Prop} {ta tb te : TE} {r : R2} {x y : AV}
/-! ### expressions -/
theorem ae_var {i : Nat} {x : AV} (h : σ[i]? = some (some x)) (k : Φ x M) : AE B K (tVar i) σ M Φ := fun W μ H τ o s e Q q =>
  let ⟨v, h1, h2⟩ := e.2 i x h
  ⟨v, h1, q _ _ _ _ _ _ k (.refl o s) h2⟩
theorem ae_int {i : Int} (k : Φ (.d (.int i)) M) : AE B K (tC (.int i)) σ M Φ := fun W μ H τ o s e Q q => q _ _ _ _ _ _ k (.refl o s) rfl
theorem ae_bl {b : Bool} (k : Φ (.d (.bl b)) M) : AE B K (tC (.bl b)) σ M Φ := fun W μ H τ o s e Q q => q _ _ _ _ _ _ k (.refl o s) rfl
theorem ae_non (k : Φ (.d .non) M) : AE B K (tC .non) σ M Φ := fun W μ H τ o s e Q q => q _ _ _ _ _ _ k (.refl o s) rfl
theorem ae_str {z : Str} (k : Φ (.d (.str z)) M) : AE B K (tC (.str z)) σ M Φ := fun W μ H τ o s e Q q => q _ _ _ _ _ _ k (.refl o s) rfl
theorem ae_ty {n : String} (k : Φ (.d (.ty n)) M) : AE B K (tC (.ty n)) σ M Φ := fun W μ H τ o s e Q q => q _ _ _ _ _ _ k (.refl o s) rfl
theorem ae_adr {a : Addr} (k : Φ (.d (.adr a)) M) : AE B K (tC (.ref a)) σ M Φ := fun W μ H τ o s e Q q => q _ _ _ _ _ _ k (.refl o s) rfl
theorem AE.imp {Φ' : AV → List MO → Prop} (h : AE B K te σ M Φ) (f : ∀ x M', Φ x M' → Φ' x M') : AE B K te σ M Φ' := fun W μ H τ o s e Q q =>
  h W μ H τ o s e Q fun x M' W' μ' H' v p fi r => q x M' W' μ' H' v (f _ _ p) fi r
theorem ae_op (h : AE B K ta σ M fun x M1 => AE B K tb σ M1 fun y M2 => AR B K r x y M2 Φ) : AE B K (tOp r ta tb) σ M Φ := fun W μ H τ o s e Q q =>
  h W μ H τ o s e _ fun x M1 W1 μ1 H1 v p f1 r1 => p W1 μ1 H1 τ f1.ok f1.sim (f1.re e) _ fun y M2 W2 μ2 H2 w p2 f2 r2 =>
    p2 W2 μ2 H2 v w f2.ok f2.sim (f2.ra r1) r2 _ fun z M3 W3 μ3 H3 v3 p3 f3 r3 => q z M3 W3 μ3 H3 v3 p3 ((f1.trans f2).trans f3) r3
theorem ae_un {r : V → Hp → VK → Prop} (h : AE B K ta σ M fun x M1 => AU B K r x M1 Φ) : AE B K (tUn r ta) σ M Φ := fun W μ H τ o s e Q q =>
  h W μ H τ o s e _ fun x M1 W1 μ1 H1 v p f1 r1 => p W1 μ1 H1 v f1.ok f1.sim r1 _ fun z M3 W3 μ3 H3 v3 p3 f3 r3 => q z M3 W3 μ3 H3 v3 p3 (f1.trans f3) r3
theorem aa_nil {Φ : List AV → List MO → Prop} (k : Φ [] M) : AA B K tNil σ M Φ := fun W μ H τ o s e Q q => q _ _ _ _ _ _ k (.refl o s) rfl
theorem aa_cons {tr : TA} {Φ : List AV → List MO → Prop} (h : AE B K ta σ M fun x M1 => AA B K tr σ M1 fun xs M2 => Φ (x :: xs) M2) : AA B K (tCons ta tr) σ M Φ := fun W μ H τ o s e Q q =>
  h W μ H τ o s e _ fun x M1 W1 μ1 H1 v p f1 r1 => p W1 μ1 H1 τ f1.ok f1.sim (f1.re e) _ fun xs M2 W2 μ2 H2 vs p2 f2 r2 => q _ _ _ _ _ _ p2 (f1.trans f2) ⟨v, vs, rfl, f2.ra r1, r2⟩
theorem ae_cb {r : List V → Hp → VK → Prop} {ta : TA} (h : AA B K ta σ M fun xs M1 => AC B K r xs M1 Φ) : AE B K (tCB r ta) σ M Φ := fun W μ H τ o s e Q q =>
  h W μ H τ o s e _ fun xs M1 W1 μ1 H1 vs p f1 r1 => p W1 μ1 H1 vs f1.ok f1.sim r1 _ fun z M2 W2 μ2 H2 v p2 f2 r2 => q _ _ _ _ _ _ p2 (f1.trans f2) r2

/-! ### operators on data -/
theorem ar_i0 {g : Int → Int → Int} {i j : Int} (k : Φ (.d (.int (g i j))) M) : AR B K (rI0 fun i j => .int (g i j)) (.d (.int i)) (.d (.int j)) M Φ := fun W μ H u w o s hu hw Q q => by
  cases hu; cases hw
  exact ⟨i, j, rfl, rfl, q _ _ _ _ _ _ k (.refl o s) rfl⟩
theorem ar_b0 {g : Int → Int → Bool} {i j : Int} (k : Φ (.d (.bl (g i j))) M) : AR B K (rI0 fun i j => .bl (g i j)) (.d (.int i)) (.d (.int j)) M Φ := fun W μ H u w o s hu hw Q q => by
  cases hu; cases hw
  exact ⟨i, j, rfl, rfl, q _ _ _ _ _ _ k (.refl o s) rfl⟩
theorem ar_i {C : Int → Int → Prop} {g : Int → Int → Int} {i j : Int} (hc : C i j) (k : Φ (.d (.int (g i j))) M) : AR B K (rI C fun i j => .int (g i j)) (.d (.int i)) (.d (.int j)) M Φ := fun W μ H u w o s hu hw Q q => by
  cases hu; cases hw
  exact ⟨i, j, rfl, rfl, hc, q _ _ _ _ _ _ k (.refl o s) rfl⟩
theorem dec_int (i j : Int) : decide (V.int i = V.int j) = decide (i = j) := by
  by_cases h : i = j
  · subst h; simp
  · rw [decide_eq_false h, decide_eq_false (fun e => h (V.int.inj e))]
theorem dec_str (i j : Str) : decide (V.str i = V.str j) = decide (i = j) := by
  by_cases h : i = j
  · subst h; simp
  · rw [decide_eq_false h, decide_eq_false (fun e => h (V.str.inj e))]
theorem dec_bl (i j : Bool) : decide (V.bl i = V.bl j) = decide (i = j) := by
  by_cases h : i = j
  · subst h; simp
  · rw [decide_eq_false h, decide_eq_false (fun e => h (V.bl.inj e))]
theorem ar_eqI {i j : Int} (k : Φ (.d (.bl (decide (i = j)))) M) : AR B K rEq (.d (.int i)) (.d (.int j)) M Φ := fun W μ H u w o s hu hw Q q => by
  cases hu; cases hw
  exact ⟨rfl, by rw [dec_int]; exact q _ _ _ _ _ _ k (.refl o s) rfl⟩
theorem ar_neI {i j : Int} (k : Φ (.d (.bl (!decide (i = j)))) M) : AR B K rNe (.d (.int i)) (.d (.int j)) M Φ := fun W μ H u w o s hu hw Q q => by
  cases hu; cases hw
  exact ⟨rfl, by rw [dec_int]; exact q _ _ _ _ _ _ k (.refl o s) rfl⟩
theorem ar_eqS {i j : Str} (k : Φ (.d (.bl (decide (i = j)))) M) : AR B K rEq (.d (.str i)) (.d (.str j)) M Φ := fun W μ H u w o s hu hw Q q => by
  cases hu; cases hw
  exact ⟨rfl, by rw [dec_str]; exact q _ _ _ _ _ _ k (.refl o s) rfl⟩
theorem ar_neS {i j : Str} (k : Φ (.d (.bl (!decide (i = j)))) M) : AR B K rNe (.d (.str i)) (.d (.str j)) M Φ := fun W μ H u w o s hu hw Q q => by
  cases hu; cases hw
  exact ⟨rfl, by rw [dec_str]; exact q _ _ _ _ _ _ k (.refl o s) rfl⟩
theorem ar_eqB {i j : Bool} (k : Φ (.d (.bl (decide (i = j)))) M) : AR B K rEq (.d (.bl i)) (.d (.bl j)) M Φ := fun W μ H u w o s hu hw Q q => by
  cases hu; cases hw
  exact ⟨rfl, by rw [dec_bl]; exact q _ _ _ _ _ _ k (.refl o s) rfl⟩
theorem ar_neB {i j : Bool} (k : Φ (.d (.bl (!decide (i = j)))) M) : AR B K rNe (.d (.bl i)) (.d (.bl j)) M Φ := fun W μ H u w o s hu hw Q q => by
  cases hu; cases hw
  exact ⟨rfl, by rw [dec_bl]; exact q _ _ _ _ _ _ k (.refl o s) rfl⟩
theorem ar_addS {i j : Str} (hz : i.length + j.length ≤ sizeLine) (k : Φ (.d (.str (i ++ j))) M) : AR B K (fun x y H Q => ∃ i j, x = .str i ∧ y = .str j ∧ i.length + j.length ≤ sizeLine ∧ Q (.str (i ++ j)) H) (.d (.str i)) (.d (.str j)) M Φ := fun W μ H u w o s hu hw Q q => by
  cases hu; cases hw
  exact ⟨i, j, rfl, rfl, hz, q _ _ _ _ _ _ k (.refl o s) rfl⟩
def isNon : D → Bool | .non => true | _ => false
theorem rd_non {W : Hp} {x : D} {v : V} (h : RD K W x v) : decide (v = .non) = isNon x := by
  cases x with
  | non => cases h; rfl
  | bl b => cases h; rfl
  | int b => cases h; rfl
  | str b => cases h; rfl
  | ty b => cases h; rfl
  | adr b => cases h; rfl
  | tup l => obtain ⟨a, vs, rfl, _⟩ := h; rfl
  | lst l => obtain ⟨a, vs, rfl, _⟩ := h; rfl
  | scr l => obtain ⟨a, vs, rfl, _⟩ := h; rfl
  | ins C ns l => obtain ⟨a, dx, vs, rfl, _⟩ := h; rfl
  | clo a u => obtain ⟨rfl, _⟩ := h; rfl
  | dT ks l => obtain ⟨a, vs, rfl, _⟩ := h; rfl
  | dK ks l => obtain ⟨a, vs, rfl, _⟩ := h; rfl
  | exc a dx C ns l => obtain ⟨vs, rfl, _⟩ := h; rfl
theorem ar_isN {x : D} (k : Φ (.d (.bl (isNon x))) M) : AR B K (fun x y H Q => y = .non ∧ Q (.bl (decide (x = .non))) H) (.d x) (.d .non) M Φ := fun W μ H u w o s hu hw Q q => by
  cases hw
  refine ⟨rfl, ?_⟩
  rw [rd_non hu]
  exact q _ _ _ _ _ _ k (.refl o s) rfl
theorem ar_notN {x : D} (k : Φ (.d (.bl (!isNon x))) M) : AR B K (fun x y H Q => y = .non ∧ Q (.bl (!decide (x = .non))) H) (.d x) (.d .non) M Φ := fun W μ H u w o s hu hw Q q => by
  cases hw
  refine ⟨rfl, ?_⟩
  rw [rd_non hu]
  exact q _ _ _ _ _ _ k (.refl o s) rfl

/-! ### subscripts -/
theorem atI_rel {W : Hp} {l : List D} {vs : List V} {i : Int} {d : D} (r : RDs K W l vs) (h : atI l i = some d) : ∃ v, atI vs i = some v ∧ RD K W d v := by
  unfold atI at h ⊢
  rw [← r.length]
  cases e : ixN l.length i with
  | none => rw [e] at h; cases h
  | some j =>
    rw [e] at h
    exact r.get h
theorem ar_ixM {k : Nat} {i : Int} {l : List D} {d : D} (hm : M[k]? = some (.lst l)) (ha : atI l i = some d) (q : Φ (.d d) M) : AR B K (rIxL K) (.m k) (.d (.int i)) M Φ := fun W μ H u w o s hu hw Q qq => by
  obtain ⟨a, h1, rfl⟩ := hu
  cases hw
  obtain ⟨vs, h2, h3⟩ := s.ob k a _ h1 hm
  obtain ⟨v, h4, h5⟩ := atI_rel h3 ha
  exact ⟨a, vs, i, v, rfl, rfl, .inl (.inl h2), h4, qq _ _ _ _ _ _ q (.refl o s) h5⟩
theorem ar_ixL {i : Int} {l : List D} {d : D} (ha : atI l i = some d) (q : Φ (.d d) M) : AR B K (rIxL K) (.d (.lst l)) (.d (.int i)) M Φ := fun W μ H u w o s hu hw Q qq => by
  obtain ⟨a, vs, rfl, h2, h3⟩ := hu
  cases hw
  obtain ⟨v, h4, h5⟩ := atI_rel h3 ha
  exact ⟨a, vs, i, v, rfl, rfl, SqL.of (s.sub _ _ h2), h4, qq _ _ _ _ _ _ q (.refl o s) h5⟩
theorem ar_ixS {i : Int} {l : List D} {d : D} (ha : atI l i = some d) (q : Φ (.d d) M) : AR B K (rIxL K) (.d (.scr l)) (.d (.int i)) M Φ := fun W μ H u w o s hu hw Q qq => by
  obtain ⟨a, vs, rfl, h2, h3⟩ := hu
  cases hw
  obtain ⟨v, h4, h5⟩ := atI_rel h3 ha
  exact ⟨a, vs, i, v, rfl, rfl, s.sub.seq h2, h4, qq _ _ _ _ _ _ q (.refl o s) h5⟩
theorem ar_ixT {i : Int} {l : List D} {d : D} (ha : atI l i = some d) (q : Φ (.d d) M) : AR B K (rIxT K) (.d (.tup l)) (.d (.int i)) M Φ := fun W μ H u w o s hu hw Q qq => by
  obtain ⟨a, vs, rfl, h2, h3⟩ := hu
  cases hw
  obtain ⟨v, h4, h5⟩ := atI_rel h3 ha
  exact ⟨a, vs, i, v, rfl, rfl, sqt_mono s.sub h2, h4, qq _ _ _ _ _ _ q (.refl o s) h5⟩

/-! ### laying new objects -/
theorem same_upd {H : Hp} {p : Addr} {o : HO} (h : H p = none) : Same H (upd H p o) := fun b u e => by
  rw [upd_ne (ne_of_none e h)]; exact e
/-- a new object that never changes -/
theorem go_new {W : Hp} {μ : List Addr} {H : Hp} {p : Addr} {u : HO} (o : Ok B W μ H) (s : Sim K W μ M H) (hp : H p = none) : Go B K W μ (upd W p u) μ M (upd H p u) := by
  have wp : W p = none := by
    cases e : W p with
    | none => rfl
    | some u => rw [s.sub p u e] at hp; cases hp
  have np : ∀ a ∈ μ, a ≠ p := fun a ha e => by
    obtain ⟨u, h⟩ := s.live ha
    rw [e, hp] at h; cases h
  refine ⟨⟨fun a v h => same_upd wp a v (o.wsub a v h), fun a v h => ?_, fun a v h hx ht => same_upd hp a v (o.fr a v h hx ht), o.pre, fun a h => ?_⟩, ⟨fun a v h => ?_, s.nd, s.len, fun a h => ?_, fun k a v h1 h2 => ?_, s.tab.ext (same_upd hp), fun p hpt => by rw [upd_ne (fun z => by obtain ⟨ps, h1, _⟩ := s.tab p hpt; rw [z, hp] at h1; cases h1)]; exact s.tw p hpt⟩, same_upd wp, ⟨[], by simp⟩⟩
  · by_cases e : a = p
    · subst e; exact .inr (.inl (o.live _ hp))
    · rw [upd_ne e] at h; exact o.wnew a v h
  · by_cases e : a = p
    · subst e; exact o.live _ hp
    · rw [upd_ne e] at h; exact o.live a h
  · by_cases e : a = p
    · subst e; rw [upd_same] at h ⊢; exact h
    · rw [upd_ne e] at h ⊢; exact s.sub a v h
  · rw [upd_ne (np a h)]; exact s.out a h
  · have q := (s.ob k a v h1 h2).mono (μ' := []) (same_upd (o := u) wp) (H' := upd H p u) (fun w e => by rw [upd_ne (np a (List.mem_of_getElem? h1))]; exact e)
    rwa [List.append_nil] at q
/-- a new mutable object -/
theorem go_mut {W : Hp} {μ : List Addr} {H : Hp} {p : Addr} {u : HO} {mo : MO} (o : Ok B W μ H) (s : Sim K W μ M H) (hp : H p = none) (ho : OR K W (μ ++ [p]) (upd H p u) mo p) : Go B K W μ W (μ ++ [p]) (M ++ [mo]) (upd H p u) := by
  have wp : W p = none := by
    cases e : W p with
    | none => rfl
    | some u => rw [s.sub p u e] at hp; cases hp
  have np : ∀ a ∈ μ, a ≠ p := fun a ha e => by
    obtain ⟨u, h⟩ := s.live ha
    rw [e, hp] at h; cases h
  obtain ⟨ext, e1, e2⟩ := o.pre
  refine ⟨⟨o.wsub, o.wnew, fun a v h hx ht => same_upd hp a v (o.fr a v h hx ht), ⟨ext ++ [p], by rw [e1, List.append_assoc], fun x hx => ?_⟩, fun a h => ?_⟩, ⟨fun a v h => ?_, ?_, by simp [s.len], fun a h => ?_, fun k a v h1 h2 => ?_, s.tab.ext (same_upd hp), s.tw⟩, fun _ _ h => h, ⟨[p], rfl⟩⟩
  · rcases List.mem_append.mp hx with hx | hx
    · exact e2 x hx
    · rw [List.mem_singleton.mp hx]; exact o.live p hp
  · by_cases e : a = p
    · subst e; exact o.live _ hp
    · rw [upd_ne e] at h; exact o.live a h
  · have : a ≠ p := fun e => by rw [e, wp] at h; cases h
    rw [upd_ne this]; exact s.sub a v h
  · refine List.nodup_append.mpr ⟨s.nd, by simp, fun a ha b hb e => ?_⟩
    rw [List.mem_singleton.mp hb] at e
    exact np a ha e
  · rcases List.mem_append.mp h with h | h
    · exact s.out a h
    · rw [List.mem_singleton.mp h]; exact wp
  · rw [List.getElem?_append] at h1 h2
    by_cases hk : k < μ.length
    · rw [if_pos hk] at h1
      rw [if_pos (by rw [← s.len]; exact hk)] at h2
      exact (s.ob k a v h1 h2).mono (fun _ _ h => h) (fun w e => by rw [upd_ne (np a (List.mem_of_getElem? h1))]; exact e)
    · rw [if_neg hk] at h1
      rw [if_neg (by rw [← s.len]; exact hk)] at h2
      have hk0 : k - μ.length = 0 := by
        have := (List.getElem?_eq_some_iff.mp h1).1
        simp at this
        omega
      rw [hk0] at h1
      have hk1 : k - M.length = 0 := by rw [← s.len]; exact hk0
      rw [hk1] at h2
      simp at h1 h2
      subst h1; subst h2
      exact ho
theorem ae_tup {ta : TA} (h : AA B K ta σ M fun xs M1 => ∃ ds : List D, xs = ds.map AV.d ∧ ds.length ≤ sizeLine ∧ Φ (.d (.tup ds)) M1) : AE B K (tTup ta) σ M Φ := fun W μ H τ o s e Q q =>
  h W μ H τ o s e _ fun xs M1 W1 μ1 H1 vs ⟨ds, e1, hz, p⟩ f1 r1 => by
    subst e1
    have r2 := r1.of_ds
    refine ⟨by rw [← r2.length]; exact hz, fun a ha => ?_⟩
    have f2 := go_new (u := .tup vs) f1.ok f1.sim ha
    exact q _ _ _ _ _ _ p (f1.trans f2) ⟨a, vs, rfl, .inl (.inl upd_same), RDs.mono f2.wext r2⟩
/-- a list that never changes -/
theorem ae_lst {ta : TA} (h : AA B K ta σ M fun xs M1 => ∃ ds : List D, xs = ds.map AV.d ∧ ds.length ≤ sizeLine ∧ Φ (.d (.lst ds)) M1) : AE B K (tLst ta) σ M Φ := fun W μ H τ o s e Q q =>
  h W μ H τ o s e _ fun xs M1 W1 μ1 H1 vs ⟨ds, e1, hz, p⟩ f1 r1 => by
    subst e1
    have r2 := r1.of_ds
    refine ⟨by rw [← r2.length]; exact hz, fun a ha => ?_⟩
    have f2 := go_new (u := .lst vs) f1.ok f1.sim ha
    exact q _ _ _ _ _ _ p (f1.trans f2) ⟨a, vs, rfl, upd_same, RDs.mono f2.wext r2⟩
/-- a list that will change -/
theorem ae_lstM {ta : TA} (h : AA B K ta σ M fun xs M1 => ∃ ds : List D, xs = ds.map AV.d ∧ ds.length ≤ sizeLine ∧ Φ (.m M1.length) (M1 ++ [.lst ds])) : AE B K (tLst ta) σ M Φ := fun W μ H τ o s e Q q =>
  h W μ H τ o s e _ fun xs M1 W1 μ1 H1 vs ⟨ds, e1, hz, p⟩ f1 r1 => by
    subst e1
    have r2 := r1.of_ds
    refine ⟨by rw [← r2.length]; exact hz, fun a ha => ?_⟩
    have f2 := go_mut (u := .lst vs) (mo := .lst ds) f1.ok f1.sim ha ⟨vs, upd_same, r2⟩
    refine q _ _ _ _ _ _ p (f1.trans f2) ⟨a, ?_, rfl⟩
    rw [← f1.sim.len, List.getElem?_append_right (Nat.le_refl _)]
    simp
/-- a mutable object written -/
theorem go_set {W : Hp} {μ : List Addr} {H : Hp} {k : Nat} {a : Addr} {u : HO} {mo : MO} (o : Ok B W μ H) (s : Sim K W μ M H) (hk : μ[k]? = some a) (ho : OR K W μ (upd H a u) mo a) : Go B K W μ W μ (M.set k mo) (upd H a u) := by
  have ha : a ∈ μ := List.mem_of_getElem? hk
  obtain ⟨ext, e1, e2⟩ := o.pre
  obtain ⟨v0, hv0⟩ := s.live ha
  refine ⟨⟨o.wsub, o.wnew, fun b v h hx ht => ?_, o.pre, fun b h => ?_⟩, ⟨fun b v h => ?_, s.nd, by simp [s.len], s.out, fun j b v h1 h2 => ?_, s.tab.keep fun b v h hn => ?_, s.tw⟩, fun _ _ h => h, ⟨[], by simp⟩⟩
  · have : b ≠ a := fun e => by
      subst e
      rw [e1] at ha
      rcases List.mem_append.mp ha with z | z
      · exact hx z
      · rw [e2 _ z] at h; cases h
    rw [upd_ne this]; exact o.fr b v h hx ht
  · by_cases e : b = a
    · subst e; rw [upd_same] at h; cases h
    · rw [upd_ne e] at h; exact o.live b h
  · have : b ≠ a := fun e => by rw [e, s.out a ha] at h; cases h
    rw [upd_ne this]; exact s.sub b v h
  · by_cases e : j = k
    · subst e
      rw [hk] at h1; cases h1
      have hl : j < M.length := by rw [← s.len]; exact (List.getElem?_eq_some_iff.mp hk).1
      rw [List.getElem?_set_self hl] at h2
      cases h2
      exact ho
    · rw [List.getElem?_set_ne (Ne.symm e)] at h2
      have : b ≠ a := fun z => by
        subst z
        obtain ⟨l1, q1⟩ := List.getElem?_eq_some_iff.mp h1
        obtain ⟨l2, q2⟩ := List.getElem?_eq_some_iff.mp hk
        exact e ((List.getElem_inj s.nd).mp (q1.trans q2.symm))
      have q := (s.ob j b v h1 h2).mono (μ' := []) (fun _ _ h => h) (H' := upd H a u) (fun w e => by rw [upd_ne this]; exact e)
      rwa [List.append_nil] at q
  · have : b ≠ a := fun z => by subst z; exact hn (s.plain ha h)
    rw [upd_ne this]; exact h
end
end Al

namespace Al
open PySem L2
variable [Al.TabList]
/-! ### a def's promise, seen so -/
abbrev Exc := Addr × List (Str × D)
abbrev ASp := List AV → List MO → (AV → List MO → Prop) → (Exc → List MO → Prop) → Prop
/-- an exception: its class, its fields -/
def RX (K : PySem.W.Frag) (W H : Hp) (x : Exc) (cls : Value) (d : Option Addr) : Prop := cls = .ref x.1 ∧ ∃ dx vs, d = some dx ∧ W dx = some (.xd ((x.2.map (·.1)).zip vs)) ∧ RDs K W (x.2.map (·.2)) vs
def conc (K : PySem.W.Frag) (asp : ASp) : Sp := fun vs H Q E => ∃ W μ M xs, Sim K W μ M H ∧ RAs K W μ xs vs ∧
  asp xs M (fun x M' => ∀ W' μ' H' v, Go ⟨W, μ, H⟩ K W μ W' μ' M' H' → RA K W' μ' x v → Q v H')
    (fun x M' => ∀ W' μ' H' cls d, Go ⟨W, μ, H⟩ K W μ W' μ' M' H' → RX K W' H' x cls d → E cls d H')
/-- what is wanted of an exception -/
def EFits (B : Base) (K : PySem.W.Frag) (Ψ : Exc → List MO → Prop) (E : XK) : Prop := ∀ x M W μ H cls d, Ψ x M → Ok B W μ H → Sim K W μ M H → RX K W H x cls d → E cls d H
def Mono (asp : ASp) : Prop := ∀ xs M Φ Φ' Ψ Ψ', (∀ x M', Φ x M' → Φ' x M') → (∀ x M', Ψ x M' → Ψ' x M') → asp xs M Φ Ψ → asp xs M Φ' Ψ'

/-! ### calls: a part of the store is handed on -/
def subK (M : List MO) (ks : List Nat) : List MO := ks.map fun k => M.getD k (.lst [])
def putK : List MO → List Nat → List MO → List MO
  | M, k :: ks, o :: os => putK (M.set k o) ks os
  | M, _, _ => M
/-- the callee's numbers, renamed -/
def renV (n : Nat) (ks : List Nat) : AV → AV
  | .d x => .d x
  | .m j => .m (if j < ks.length then ks.getD j 0 else n + (j - ks.length))
def renO (n : Nat) (ks : List Nat) : MO → MO
  | .lst l => .lst l
  | .ins C ns l => .ins C ns (l.map (renV n ks))
  | .ls l => .ls (l.map (renV n ks))
  | .dT ds l => .dT ds (l.map (renV n ks))
  | .dK ds l => .dK ds (l.map (renV n ks))
theorem putK_len : ∀ (M : List MO) (ks : List Nat) (os : List MO), (putK M ks os).length = M.length
  | M, [], _ => by unfold putK; rfl
  | M, _ :: _, [] => by unfold putK; rfl
  | M, k :: ks, o :: os => by
    unfold putK
    rw [putK_len]; simp
theorem putK_out : ∀ (M : List MO) (ks : List Nat) (os : List MO) (j : Nat), j ∉ ks → (putK M ks os)[j]? = M[j]?
  | M, [], _, j, _ => by unfold putK; rfl
  | M, _ :: _, [], j, _ => by unfold putK; rfl
  | M, k :: ks, o :: os, j, h => by
    unfold putK
    rw [putK_out _ ks os j (fun z => h (List.mem_cons_of_mem _ z)), List.getElem?_set_ne]
    intro z; exact h (by rw [z]; exact List.mem_cons_self)
theorem putK_in : ∀ (M : List MO) (ks : List Nat) (os : List MO) (i k : Nat) (o : MO), ks.Nodup → (∀ k ∈ ks, k < M.length) → ks[i]? = some k → (putK M ks os)[k]? = some o → ks.length = os.length → os[i]? = some o
  | M, [], os, i, k, o, _, _, h, _, _ => by simp at h
  | M, _ :: _, [], i, k, o, _, _, h, _, e => by simp at e
  | M, k' :: ks, o' :: os, 0, k, o, nd, lt, h, q, e => by
    simp at h; subst h
    unfold putK at q
    rw [putK_out _ ks os k' (List.nodup_cons.mp nd).1, List.getElem?_set_self (lt _ List.mem_cons_self)] at q
    simpa using q
  | M, k' :: ks, o' :: os, i + 1, k, o, nd, lt, h, q, e => by
    unfold putK at q
    have := putK_in (M.set k' o') ks os i k o (List.nodup_cons.mp nd).2 (fun z hz => by simp; exact lt z (List.mem_cons_of_mem _ hz)) (by simpa using h) q (by simpa using e)
    simpa using this
section
variable {B : Base} {K : PySem.W.Frag} {W W' H H' : Hp} {μ μ' : List Addr} {M M2 : List MO} {ks : List Nat}
def subA (μ : List Addr) (ks : List Nat) : List Addr := ks.map fun k => μ.getD k 0
theorem subA_get {i k : Nat} (hk : ks[i]? = some k) (hl : k < μ.length) : (subA μ ks)[i]? = μ[k]? := by
  unfold subA
  rw [List.getElem?_map, hk]
  simp [List.getD, hl]
theorem subA_mem {a : Addr} (hl : ∀ k ∈ ks, k < μ.length) (h : a ∈ subA μ ks) : a ∈ μ := by
  unfold subA at h
  obtain ⟨k, hk, rfl⟩ := List.mem_map.mp h
  rw [List.getD, List.getElem?_eq_getElem (hl k hk)]
  exact List.getElem_mem _
theorem ra_ren {e : List Addr} {x : AV} {v : V} (hl : ∀ k ∈ ks, k < μ.length) (h : RA K W (subA μ ks ++ e) x v) : RA K W (μ ++ e) (renV μ.length ks x) v := by
  cases x with
  | d x => exact h
  | m j =>
    obtain ⟨a, h1, h2⟩ := h
    have sl : (subA μ ks).length = ks.length := by unfold subA; simp
    refine ⟨a, ?_, h2⟩
    show (μ ++ e)[if j < ks.length then ks.getD j 0 else μ.length + (j - ks.length)]? = some a
    rw [List.getElem?_append, sl] at h1
    by_cases hj : j < ks.length
    · rw [if_pos hj] at h1 ⊢
      have hk : ks[j]? = some (ks.getD j 0) := by rw [List.getD, List.getElem?_eq_getElem hj]; rfl
      have hm := hl _ (List.mem_of_getElem? hk)
      rw [subA_get hk hm] at h1
      rw [List.getElem?_append_left hm]
      exact h1
    · rw [if_neg hj] at h1 ⊢
      rw [List.getElem?_append_right (Nat.le_add_right _ _), Nat.add_sub_cancel_left]
      exact h1
theorem ras_ren {e : List Addr} (hl : ∀ k ∈ ks, k < μ.length) : ∀ {x : List AV} {v : List V}, RAs K W (subA μ ks ++ e) x v → RAs K W (μ ++ e) (x.map (renV μ.length ks)) v
  | [], _, h => h
  | d :: l, _, ⟨v, r, e1, h, t⟩ => ⟨v, r, e1, ra_ren hl h, ras_ren hl t⟩
theorem or_ren {e : List Addr} {o : MO} {a : Addr} (hl : ∀ k ∈ ks, k < μ.length) (h : OR K W (subA μ ks ++ e) H o a) : OR K W (μ ++ e) H (renO μ.length ks o) a := by
  cases o with
  | lst l => exact h
  | ins C ns l =>
    obtain ⟨dx, vs, h1, h2, h3⟩ := h
    exact ⟨dx, vs, h1, by simp [h2], ras_ren hl h3⟩
  | ls l =>
    obtain ⟨vs, h1, h3⟩ := h
    exact ⟨vs, h1, ras_ren hl h3⟩
  | dT ds l =>
    obtain ⟨vs, h1, h2, h3⟩ := h
    exact ⟨vs, h1, by simp [h2], ras_ren hl h3⟩
  | dK ds l =>
    obtain ⟨vs, h1, h2, h3⟩ := h
    exact ⟨vs, h1, by simp [h2], ras_ren hl h3⟩
theorem ras_isD {μ' : List Addr} : ∀ {x : List AV} {v : List V}, RAs K W μ x v → x.all AV.isD = true → RAs K W μ' x v
  | [], _, h, _ => h
  | .d x :: l, _, ⟨v, r, e1, h, t⟩, q => ⟨v, r, e1, h, ras_isD t (by rw [List.all_cons, Bool.and_eq_true] at q; exact q.2)⟩
  | .m k :: l, _, ⟨v, r, e1, h, t⟩, q => by rw [List.all_cons, Bool.and_eq_true] at q; exact absurd q.1 Bool.false_ne_true
/-- what the callee is handed -/
theorem sim_sub (s : Sim K W μ M H) (nd : ks.Nodup) (hl : ∀ k ∈ ks, k < M.length) (hn : ks.all (fun k => (M.getD k (.lst [])).isD) = true) : Sim K W (subA μ ks) (subK M ks) H := by
  have hl' : ∀ k ∈ ks, k < μ.length := fun k h => by rw [s.len]; exact hl k h
  refine ⟨s.sub, ?_, by unfold subA subK; simp, fun a h => s.out a (subA_mem hl' h), fun i a o h1 h2 => ?_, s.tab, s.tw⟩
  · unfold subA
    refine List.pairwise_map.mpr (List.Pairwise.imp_of_mem (R := fun a b => a ≠ b) (fun {a b} ha hb h e => h ?_) nd)
    rw [List.getD, List.getD, List.getElem?_eq_getElem (hl' a ha), List.getElem?_eq_getElem (hl' b hb)] at e
    exact (List.getElem_inj s.nd).mp e
  · have hi : i < ks.length := by
      have := (List.getElem?_eq_some_iff.mp h1).1
      unfold subA at this
      simpa using this
    have hk : ks[i]? = some ks[i] := List.getElem?_eq_getElem hi
    have hm := List.getElem_mem hi
    rw [subA_get hk (hl' _ hm)] at h1
    unfold subK at h2
    rw [List.getElem?_map, hk] at h2
    simp only [Option.map_some, Option.some.injEq] at h2
    rw [List.getD, List.getElem?_eq_getElem (hl _ hm)] at h2
    simp only [Option.getD_some] at h2
    have q := s.ob _ a o h1 (by rw [List.getElem?_eq_getElem (hl _ hm), h2])
    cases o with
    | lst l => exact q
    | ins C ns l =>
      have z := List.all_eq_true.mp hn _ hm
      rw [List.getD, List.getElem?_eq_getElem (hl _ hm)] at z
      simp only [Option.getD_some] at z
      rw [h2] at z
      obtain ⟨dx, vs, e1, e2, e3⟩ := q
      exact ⟨dx, vs, e1, e2, ras_isD e3 z⟩
    | ls l =>
      have z := List.all_eq_true.mp hn _ hm
      rw [List.getD, List.getElem?_eq_getElem (hl _ hm)] at z
      simp only [Option.getD_some] at z
      rw [h2] at z
      obtain ⟨vs, e1, e3⟩ := q
      exact ⟨vs, e1, ras_isD e3 z⟩
    | dT ds l =>
      have z := List.all_eq_true.mp hn _ hm
      rw [List.getD, List.getElem?_eq_getElem (hl _ hm)] at z
      simp only [Option.getD_some] at z
      rw [h2] at z
      obtain ⟨vs, e1, e2, e3⟩ := q
      exact ⟨vs, e1, e2, ras_isD e3 z⟩
    | dK ds l =>
      have z := List.all_eq_true.mp hn _ hm
      rw [List.getD, List.getElem?_eq_getElem (hl _ hm)] at z
      simp only [Option.getD_some] at z
      rw [h2] at z
      obtain ⟨vs, e1, e2, e3⟩ := q
      exact ⟨vs, e1, e2, ras_isD e3 z⟩
/-- behind the callee -/
theorem go_call {M2a M2b : List MO} (o : Ok B W μ H) (s : Sim K W μ M H) (nd : ks.Nodup) (hl : ∀ k ∈ ks, k < M.length) (h2 : M2a.length = ks.length) (f : Go ⟨W, subA μ ks, H⟩ K W (subA μ ks) W' μ' (M2a ++ M2b) H') :
    ∃ e, μ' = subA μ ks ++ e ∧ Go B K W μ W' (μ ++ e) (putK M ks (M2a.map (renO μ.length ks)) ++ M2b.map (renO μ.length ks)) H' := by
  have hl' : ∀ k ∈ ks, k < μ.length := fun k h => by rw [s.len]; exact hl k h
  have sl : (subA μ ks).length = ks.length := by unfold subA; simp
  obtain ⟨e, he⟩ := f.mext
  obtain ⟨e', he', hfr⟩ := f.ok.pre
  have : e' = e := by
    have := he'.symm.trans he
    exact List.append_cancel_left this
  subst this
  have hnd := f.sim.nd
  rw [he] at hnd
  have fresh : ∀ a ∈ μ, a ∉ e' := fun a ha h => by
    obtain ⟨u, hu⟩ := s.live ha
    have hz : H a = none := hfr a h
    rw [hz] at hu; cases hu
  refine ⟨e', he, o.trans (fun a h => subA_mem hl' h) f.ok he, ⟨f.sim.sub, ?_, ?_, fun a h => ?_, fun j a ob h1 hob => ?_, f.sim.tab, f.sim.tw⟩, f.wext, ⟨e', rfl⟩⟩
  · exact List.nodup_append.mpr ⟨s.nd, (List.nodup_append.mp hnd).2.1, fun a ha b hb z => fresh a ha (z ▸ hb)⟩
  · have := f.sim.len
    rw [he] at this
    simp [putK_len] at this ⊢
    rw [sl] at this
    rw [s.len]
    omega
  · rcases List.mem_append.mp h with h | h
    · cases q : W' a with
      | none => rfl
      | some u =>
        rcases f.ok.wnew a u q with z | z | z
        · have z : W a = some u := z
          rw [s.out a h] at z; cases z
        · obtain ⟨v, hv⟩ := s.live h
          have z : H a = none := z
          rw [z] at hv; cases hv
        · obtain ⟨v, hv⟩ := s.live h
          by_cases hm : a ∈ subA μ ks
          · have z2 := f.sim.out a (by rw [he]; exact List.mem_append_left _ hm)
            rw [z2] at q; cases q
          · have e1 : H' a = some v := f.ok.fr a v hv hm (s.plain h hv).1
            have e2 := f.sim.sub a u q
            rw [e1] at e2; cases e2
            exact absurd (s.plain h hv) z
    · exact f.sim.out a (by rw [he]; exact List.mem_append_right _ h)
  · rw [List.getElem?_append, putK_len] at hob
    rw [List.getElem?_append] at h1
    by_cases hj : j < M.length
    · rw [if_pos hj] at hob
      rw [if_pos (by rw [s.len]; exact hj)] at h1
      by_cases hk : j ∈ ks
      · obtain ⟨i, hi, hij⟩ := List.getElem_of_mem hk
        have hi' : ks[i]? = some j := by rw [← hij]; exact List.getElem?_eq_getElem hi
        have q := putK_in M ks (M2a.map (renO μ.length ks)) i j ob nd hl hi' hob (by simp [h2])
        rw [List.getElem?_map] at q
        cases e2 : M2a[i]? with
        | none => rw [e2] at q; cases q
        | some ob' =>
          rw [e2] at q
          simp only [Option.map_some, Option.some.injEq] at q
          subst q
          have z := f.sim.ob i a ob' (by rw [he, List.getElem?_append_left (by rw [sl]; exact hi), subA_get hi' (by rw [s.len]; exact hj)]; exact h1) (by rw [List.getElem?_append_left (by omega)]; exact e2)
          rw [he] at z
          exact or_ren hl' z
      · rw [putK_out _ _ _ _ hk] at hob
        have nm : a ∉ subA μ ks := fun hm => by
          unfold subA at hm
          obtain ⟨k, hk1, hk2⟩ := List.mem_map.mp hm
          rw [List.getD, List.getElem?_eq_getElem (hl' k hk1)] at hk2
          obtain ⟨l1, q1⟩ := List.getElem?_eq_some_iff.mp h1
          have : k = j := (List.getElem_inj s.nd).mp (hk2.trans q1.symm)
          exact hk (this ▸ hk1)
        exact (s.ob j a ob h1 hob).mono f.wext fun u hu => f.ok.fr a u hu nm ((s.ob j a ob h1 hob).plain hu).1
    · rw [if_neg hj] at hob
      rw [if_neg (by rw [s.len]; exact hj)] at h1
      rw [List.getElem?_map] at hob
      cases e2 : M2b[j - M.length]? with
      | none => rw [e2] at hob; cases hob
      | some ob' =>
        rw [e2] at hob
        simp only [Option.map_some, Option.some.injEq] at hob
        subst hob
        have z := f.sim.ob (ks.length + (j - M.length)) a ob' (by rw [he, List.getElem?_append_right (by rw [sl]; omega), sl, Nat.add_sub_cancel_left, ← s.len]; exact h1)
          (by rw [List.getElem?_append_right (by omega), h2, Nat.add_sub_cancel_left]; exact e2)
        rw [he] at z
        exact or_ren hl' z
/-- the callee's wish, from the caller's: asp of the handed part; xs' the arguments by the callee's numbers -/
def Sent (asp : ASp) (xs : List AV) (M : List MO) (Φ : AV → List MO → Prop) (Ψ : Exc → List MO → Prop) : Prop :=
  ∃ (ks : List Nat) (xs' : List AV), ks.Nodup ∧ ks.all (fun k => decide (k < M.length)) = true ∧ ks.all (fun k => (M.getD k (.lst [])).isD) = true ∧ xs = xs'.map (renV M.length ks) ∧ xs'.all (AV.below ks.length) = true ∧
    asp xs' (subK M ks) (fun x M' => ∃ Ma Mb, M' = Ma ++ Mb ∧ Ma.length = ks.length ∧ Φ (renV M.length ks x) (putK M ks (Ma.map (renO M.length ks)) ++ Mb.map (renO M.length ks)))
      (fun x M' => ∃ Ma Mb, M' = Ma ++ Mb ∧ Ma.length = ks.length ∧ Ψ x (putK M ks (Ma.map (renO M.length ks)) ++ Mb.map (renO M.length ks)))
theorem ras_back (hl : ∀ k ∈ ks, k < μ.length) : ∀ {xs : List AV} {vs : List V}, (∀ j, AV.m j ∈ xs → j < ks.length) → RAs K W μ (xs.map (renV μ.length ks)) vs → RAs K W (subA μ ks) xs vs
  | [], _, _, h => h
  | x :: l, _, hx, ⟨v, r, e1, h, t⟩ => ⟨v, r, e1, by
      cases x with
      | d x => exact h
      | m j =>
        have hj := hx j List.mem_cons_self
        obtain ⟨a, h1, h2⟩ := h
        have hk : ks[j]? = some (ks.getD j 0) := by rw [List.getD, List.getElem?_eq_getElem hj]; rfl
        rw [if_pos hj] at h1
        refine ⟨a, ?_, h2⟩
        rw [subA_get hk (hl _ (List.mem_of_getElem? hk))]
        exact h1, ras_back hl (fun j hj => hx j (List.mem_cons_of_mem _ hj)) t⟩
theorem sent_run {asp : ASp} (mono : Mono asp) {xs : List AV} {vs : List V} {Φ : AV → List MO → Prop} {Ψ : Exc → List MO → Prop} {Q : VK} {E : XK} (o : Ok B W μ H) (s : Sim K W μ M H) (r : RAs K W μ xs vs) (h : Sent asp xs M Φ Ψ)
    (q : ∀ z M' W' μ' H' v, Φ z M' → Go B K W μ W' μ' M' H' → RA K W' μ' z v → Q v H') (qe : EFits B K Ψ E) : conc K asp vs H Q E := by
  obtain ⟨ks, xs', nd, hl, hn, rfl, hx, ha⟩ := h
  have hl : ∀ k ∈ ks, k < M.length := fun k hk => of_decide_eq_true (List.all_eq_true.mp hl k hk)
  have hx : ∀ j, AV.m j ∈ xs' → j < ks.length := fun j hj => of_decide_eq_true (List.all_eq_true.mp hx _ hj)
  have hl' : ∀ k ∈ ks, k < μ.length := fun k h => by rw [s.len]; exact hl k h
  refine ⟨W, subA μ ks, subK M ks, xs', sim_sub s nd hl hn, ras_back hl' hx (by rw [s.len]; exact r), mono _ _ _ _ _ _ (fun x M' ⟨Ma, Mb, e, h2, p⟩ W' μ' H' v f rv => ?_) (fun x M' ⟨Ma, Mb, e, h2, p⟩ W' μ' H' cls d f rx => ?_) ha⟩
  · subst e
    obtain ⟨e', he, f2⟩ := go_call o s nd hl h2 f
    subst he
    rw [s.len] at f2
    exact q _ _ _ _ _ _ p f2 (by rw [← s.len]; exact ra_ren hl' rv)
  · subst e
    obtain ⟨e', he, f2⟩ := go_call o s nd hl h2 f
    subst he
    rw [s.len] at f2
    exact qe _ _ _ _ _ _ _ p f2.ok f2.sim rx
variable {σ : AEnv} {Φ : AV → List MO → Prop} {ta : TA}
/-- f(..) -/
theorem ae_call {asp : ASp} {dvs : List V} {das : List AV} {E : XK} {Ψ : Exc → List MO → Prop} (mono : Mono asp) (qe : EFits B K Ψ E) (hd : ∀ W μ, RAs K W μ das dvs) (h : AA B K ta σ M fun xs M1 => Sent asp (xs ++ das) M1 Φ Ψ) : AE B K (tCall (conc K asp) dvs E ta) σ M Φ := fun W μ H τ o s e Q q =>
  h W μ H τ o s e _ fun xs M1 W1 μ1 H1 vs p f1 r1 => sent_run mono f1.ok f1.sim (RAs.append r1 (hd _ _)) p (fun z M' W' μ' H' v p2 f2 r2 => q _ _ _ _ _ _ p2 (f1.trans f2) r2) qe
theorem ae_callK {asp : ASp} {gV : List V → List V → List V} {gA : List AV → List AV → List AV} {E : XK} {tk : TA} {Ψ : Exc → List MO → Prop} (mono : Mono asp) (qe : EFits B K Ψ E) (hg : ∀ W μ xs ys vs zs, RAs K W μ xs vs → RAs K W μ ys zs → RAs K W μ (gA xs ys) (gV vs zs))
    (h : AA B K ta σ M fun xs M1 => AA B K tk σ M1 fun ys M2 => Sent asp (gA xs ys) M2 Φ Ψ) : AE B K (tCallK (conc K asp) gV E ta tk) σ M Φ := fun W μ H τ o s e Q q =>
  h W μ H τ o s e _ fun xs M1 W1 μ1 H1 vs p f1 r1 => p W1 μ1 H1 τ f1.ok f1.sim (f1.re e) _ fun ys M2 W2 μ2 H2 zs p2 f2 r2 =>
    sent_run mono f2.ok f2.sim (hg _ _ _ _ _ _ (f2.ras r1) r2) p2 (fun z M' W' μ' H' v p3 f3 r3 => q _ _ _ _ _ _ p3 ((f1.trans f2).trans f3) r3) qe
theorem efits_none {E : XK} : EFits B K (fun _ _ => False) E := fun _ _ _ _ _ _ _ h => h.elim
end
end Al

namespace Al
open PySem L2
variable [Al.TabList]
section
variable {B : Base} {K : PySem.W.Frag} {σ : AEnv} {M : List MO} {ta tb te : TE} {x y : AV}
/-! ### tests -/
section
variable {Φ : Bool → List MO → Prop} {t u : TT}
theorem at_test (h : AE B K te σ M fun x M1 => ∃ b, x = .d (.bl b) ∧ Φ b M1) : AT B K (tTest te) σ M Φ := fun W μ H τ o s e Q q =>
  h W μ H τ o s e _ fun x M1 W1 μ1 H1 v ⟨b, e1, p⟩ f1 r1 => by subst e1; exact ⟨b, r1, q _ _ _ _ _ p f1⟩
theorem at_b (h : AE B K te σ M fun x M1 => ∃ b, x = .d (.bl b) ∧ Φ b M1) : AT B K (tB te) σ M Φ := fun W μ H τ o s e Q q =>
  h W μ H τ o s e _ fun x M1 W1 μ1 H1 v ⟨b, e1, p⟩ f1 r1 => by subst e1; exact ⟨b, r1, q _ _ _ _ _ p f1⟩
theorem at_and (h : AT B K t σ M fun b M1 => (b = true → AT B K u σ M1 Φ) ∧ (b = false → Φ false M1)) : AT B K (tAnd t u) σ M Φ := fun W μ H τ o s e Q q =>
  h W μ H τ o s e _ fun b M1 W1 μ1 H1 ⟨p1, p2⟩ f1 => by
    cases b with
    | true => exact iteT (p1 rfl W1 μ1 H1 τ f1.ok f1.sim (f1.re e) _ fun b M2 W2 μ2 H2 p f2 => q _ _ _ _ _ p (f1.trans f2))
    | false => exact iteF (q _ _ _ _ _ (p2 rfl) f1)
theorem at_or (h : AT B K t σ M fun b M1 => (b = true → Φ true M1) ∧ (b = false → AT B K u σ M1 Φ)) : AT B K (tOr t u) σ M Φ := fun W μ H τ o s e Q q =>
  h W μ H τ o s e _ fun b M1 W1 μ1 H1 ⟨p1, p2⟩ f1 => by
    cases b with
    | false => exact iteF (p2 rfl W1 μ1 H1 τ f1.ok f1.sim (f1.re e) _ fun b M2 W2 μ2 H2 p f2 => q _ _ _ _ _ p (f1.trans f2))
    | true => exact iteT (q _ _ _ _ _ (p1 rfl) f1)
theorem at_not (h : AT B K t σ M fun b M1 => Φ (!b) M1) : AT B K (tNot t) σ M Φ := fun W μ H τ o s e Q q =>
  h W μ H τ o s e _ fun b M1 W1 μ1 H1 p f1 => q _ _ _ _ _ p f1
theorem AT.imp {Φ' : Bool → List MO → Prop} (h : AT B K t σ M Φ) (f : ∀ x M', Φ x M' → Φ' x M') : AT B K t σ M Φ' := fun W μ H τ o s e Q q =>
  h W μ H τ o s e Q fun x M' W' μ' H' p fi => q x M' W' μ' H' (f _ _ p) fi
end
section
variable {Φ : AV → List MO → Prop} {t : TT}
theorem ae_if (h : AT B K t σ M fun b M1 => (b = true → AE B K ta σ M1 Φ) ∧ (b = false → AE B K tb σ M1 Φ)) : AE B K (tIf t ta tb) σ M Φ := fun W μ H τ o s e Q q =>
  h W μ H τ o s e _ fun b M1 W1 μ1 H1 ⟨p1, p2⟩ f1 => by
    cases b with
    | true => exact iteT (p1 rfl W1 μ1 H1 τ f1.ok f1.sim (f1.re e) _ fun b M2 W2 μ2 H2 v p f2 r => q _ _ _ _ _ _ p (f1.trans f2) r)
    | false => exact iteF (p2 rfl W1 μ1 H1 τ f1.ok f1.sim (f1.re e) _ fun b M2 W2 μ2 H2 v p f2 r => q _ _ _ _ _ _ p (f1.trans f2) r)
theorem ae_andV (h : AE B K ta σ M fun x M1 => ∃ b, x = .d (.bl b) ∧ (b = true → AE B K tb σ M1 Φ) ∧ (b = false → Φ (.d (.bl false)) M1)) : AE B K (tAndV ta tb) σ M Φ := fun W μ H τ o s e Q q =>
  h W μ H τ o s e _ fun x M1 W1 μ1 H1 v ⟨b, e1, p1, p2⟩ f1 r1 => by
    subst e1
    refine ⟨b, r1, ?_⟩
    cases b with
    | true => exact iteT (p1 rfl W1 μ1 H1 τ f1.ok f1.sim (f1.re e) _ fun b M2 W2 μ2 H2 v p f2 r => q _ _ _ _ _ _ p (f1.trans f2) r)
    | false => exact iteF (q _ _ _ _ _ _ (p2 rfl) f1 rfl)
theorem ae_orV (h : AE B K ta σ M fun x M1 => ∃ b, x = .d (.bl b) ∧ (b = true → Φ (.d (.bl true)) M1) ∧ (b = false → AE B K tb σ M1 Φ)) : AE B K (tOrV ta tb) σ M Φ := fun W μ H τ o s e Q q =>
  h W μ H τ o s e _ fun x M1 W1 μ1 H1 v ⟨b, e1, p1, p2⟩ f1 r1 => by
    subst e1
    refine ⟨b, r1, ?_⟩
    cases b with
    | false => exact iteF (p2 rfl W1 μ1 H1 τ f1.ok f1.sim (f1.re e) _ fun b M2 W2 μ2 H2 v p f2 r => q _ _ _ _ _ _ p (f1.trans f2) r)
    | true => exact iteT (q _ _ _ _ _ _ (p1 rfl) f1 rfl)
theorem ae_notV (h : AE B K ta σ M fun x M1 => ∃ b, x = .d (.bl b) ∧ Φ (.d (.bl (!b))) M1) : AE B K (tNotV ta) σ M Φ := fun W μ H τ o s e Q q =>
  h W μ H τ o s e _ fun x M1 W1 μ1 H1 v ⟨b, e1, p1⟩ f1 r1 => by
    subst e1
    exact ⟨b, r1, q _ _ _ _ _ _ p1 f1 rfl⟩
theorem ae_chain {r r' : R2} {tc : TE} (h : AE B K ta σ M fun x M1 => AE B K tb σ M1 fun y M2 => AR B K r x y M2 fun z M3 => ∃ b, z = .d (.bl b) ∧ (b = true → AE B K tc σ M3 fun w M4 => AR B K r' y w M4 Φ) ∧ (b = false → Φ (.d (.bl false)) M3)) : AE B K (tChain r r' ta tb tc) σ M Φ := fun W μ H τ o s e Q q =>
  h W μ H τ o s e _ fun x M1 W1 μ1 H1 v p f1 r1 => p W1 μ1 H1 τ f1.ok f1.sim (f1.re e) _ fun y M2 W2 μ2 H2 w p2 f2 r2 =>
    p2 W2 μ2 H2 v w f2.ok f2.sim (f2.ra r1) r2 _ fun z M3 W3 μ3 H3 v3 ⟨b, e3, p3, p4⟩ f3 r3 => by
      subst e3
      refine ⟨b, r3, ?_⟩
      have f13 := (f1.trans f2).trans f3
      cases b with
      | true => exact iteT (p3 rfl W3 μ3 H3 τ f3.ok f3.sim (f13.re e) _ fun w4 M4 W4 μ4 H4 v4 p4 f4 r4 => p4 W4 μ4 H4 w v4 f4.ok f4.sim ((f3.trans f4).ra r2) r4 _ fun z5 M5 W5 μ5 H5 v5 p5 f5 r5 => q _ _ _ _ _ _ p5 ((f13.trans f4).trans f5) r5)
      | false => exact iteF (q _ _ _ _ _ _ (p4 rfl) f13 rfl)
end

/-! ### targets, statements -/
section
variable {Φ : AEnv → List MO → Prop} {g : TG}
theorem ag_name {i : Nat} (k : Φ (σ.set i (some x)) M) : AG B K (gName i) x σ M Φ := fun W μ H τ v o s e r Q q => q _ _ _ _ _ _ k (.refl o s) (e.set r i)
theorem ags_nil (k : Φ σ M) : AGs B K gNil [] σ M Φ := fun W μ H τ v o s e r Q q => ⟨r, q _ _ _ _ _ _ k (.refl o s) e⟩
theorem ags_cons {gs : TGs} {xs : List AV} (h : AG B K g x σ M fun σ1 M1 => AGs B K gs xs σ1 M1 Φ) : AGs B K (gCons g gs) (x :: xs) σ M Φ := fun W μ H τ v o s e r Q q => by
  obtain ⟨a, b, rfl, r1, r2⟩ := r
  exact ⟨a, b, rfl, h W μ H τ a o s e r1 _ fun σ1 M1 W1 μ1 H1 τ1 p f1 e1 => p W1 μ1 H1 τ1 b f1.ok f1.sim e1 (f1.ras r2) _ fun σ2 M2 W2 μ2 H2 τ2 p2 f2 e2 => q _ _ _ _ _ _ p2 (f1.trans f2) e2⟩
theorem ras_ds {W : Hp} {μ : List Addr} : ∀ {l : List D} {vs : List V}, RDs K W l vs → RAs K W μ (l.map AV.d) vs
  | [], _, h => h
  | d :: l, _, ⟨v, r, e1, h, t⟩ => ⟨v, r, e1, h, ras_ds t⟩
theorem ag_tup {n : Nat} {gs : TGs} {ds : List D} (hn : ds.length = n) (h : AGs B K gs (ds.map AV.d) σ M Φ) : AG B K (gTup K n gs) (.d (.tup ds)) σ M Φ := fun W μ H τ v o s e r Q q => by
  obtain ⟨a, vs, rfl, h1, h2⟩ := r
  exact ⟨a, vs, rfl, sqt_mono s.sub h1, by rw [← h2.length]; exact hn, h W μ H τ vs o s e (ras_ds h2) Q q⟩
theorem ag_lst {n : Nat} {gs : TGs} {ds : List D} (hn : ds.length = n) (h : AGs B K gs (ds.map AV.d) σ M Φ) : AG B K (gLst K n gs) (.d (.lst ds)) σ M Φ := fun W μ H τ v o s e r Q q => by
  obtain ⟨a, vs, rfl, h1, h2⟩ := r
  exact ⟨a, vs, rfl, SqL.of (s.sub _ _ h1), by rw [← h2.length]; exact hn, h W μ H τ vs o s e (ras_ds h2) Q q⟩
/-- o[i] = x, o a mutable list -/
theorem ag_sub {to ti : TE} (h : AE B K to σ M fun o M1 => AE B K ti σ M1 fun i M2 => ∃ k z l j d, o = .m k ∧ i = .d (.int z) ∧ M2[k]? = some (.lst l) ∧ ixN l.length z = some j ∧ x = .d d ∧ Φ σ (M2.set k (.lst (l.set j d)))) : AG B K (gSub to ti rSetL) x σ M Φ := fun W μ H τ v o s e r Q q =>
  h W μ H τ o s e _ fun y M1 W1 μ1 H1 w p f1 r1 => p W1 μ1 H1 τ f1.ok f1.sim (f1.re e) _ fun i M2 W2 μ2 H2 u ⟨k, z, l, j, d, e1, e2, e3, e4, e5, p2⟩ f2 r2 => by
    subst e1; subst e2; subst e5
    obtain ⟨a, h1, h2⟩ := f2.ra r1
    subst h2
    cases r2
    obtain ⟨vs, h3, h4⟩ := f2.sim.ob k a _ h1 e3
    have r3 := (f1.trans f2).ra r
    refine ⟨a, vs, z, j, rfl, rfl, h3, by rw [← h4.length]; exact e4, ?_⟩
    have f3 := go_set (mo := .lst (l.set j d)) (u := .lst (vs.set j v)) f2.ok f2.sim h1 ⟨_, upd_same, RDs.set r3 j h4⟩
    exact q _ _ _ _ _ _ p2 ((f1.trans f2).trans f3) (((f1.trans f2).trans f3).re e)
end
section
variable {Φ : AEnds} {t u : TS} {g : TG}
theorem Go.fits {W1 W : Hp} {μ1 μ : List Addr} {M : List MO} {H : Hp} {E : Ends} (a : Go B K W1 μ1 W μ M H) (f : Fits B K W1 μ1 Φ E) : Fits B K W μ Φ E := f.mono a
theorem as_seq (h : AS B K t σ M { Φ with nx := fun σ1 M1 => AS B K u σ1 M1 Φ }) : AS B K (tSeq t u) σ M Φ := fun W μ H τ o s e E f =>
  h W μ H τ o s e _ ⟨fun σ1 M1 W1 μ1 H1 τ1 p g r => p W1 μ1 H1 τ1 g.ok g.sim r E (f.mono g), f.rt, f.bk, f.ct⟩
theorem as_next (k : Φ.nx σ M) : AS B K tNext σ M Φ := fun W μ H τ o s e E f => f.nx _ _ _ _ _ _ k (.refl o s) e
theorem as_asg (h : AE B K te σ M fun x M1 => AG B K g x σ M1 Φ.nx) : AS B K (tAsg te g) σ M Φ := fun W μ H τ o s e E f =>
  h W μ H τ o s e _ fun x M1 W1 μ1 H1 v p f1 r1 => p W1 μ1 H1 τ v f1.ok f1.sim (f1.re e) r1 _ fun σ2 M2 W2 μ2 H2 τ2 p2 f2 e2 => f.nx _ _ _ _ _ _ p2 (f1.trans f2) e2
theorem as_par {i j : Nat} {ta : TA} (h : AA B K ta σ M fun xs M1 => ∃ x y, xs = [x, y] ∧ Φ.nx ((σ.set i (some x)).set j (some y)) M1) : AS B K (tPar i j ta) σ M Φ := fun W μ H τ o s e E f =>
  h W μ H τ o s e _ fun xs M1 W1 μ1 H1 vs ⟨x, y, e1, p⟩ f1 r1 => by
    subst e1
    obtain ⟨v, r, rfl, r2, w, r', rfl, r3, r4⟩ := r1
    cases r4
    exact ⟨v, w, rfl, f.nx _ _ _ _ _ _ p f1 (((f1.re e).set r2 i).set r3 j)⟩
theorem as_aug {i : Nat} {f : Int → Int → Int} {a : Int} (hx : σ[i]? = some (some (.d (.int a)))) (h : AE B K te σ M fun y M1 => ∃ b, y = .d (.int b) ∧ Φ.nx (σ.set i (some (.d (.int (f a b))))) M1) : AS B K (tAug i te (ipI f)) σ M Φ := fun W μ H τ o s e E ff => by
  obtain ⟨v, h1, h2⟩ := e.2 i _ hx
  cases h2
  exact ⟨_, h1, h W μ H τ o s e _ fun y M1 W1 μ1 H1 w ⟨b, e1, p⟩ f1 r1 => by
    subst e1; cases r1
    exact ⟨a, b, rfl, rfl, ff.nx _ _ _ _ _ _ p f1 (RE.set (x := .d (.int (f a b))) (f1.re e) rfl i)⟩⟩
theorem as_drop (h : AE B K te σ M fun _ M1 => Φ.nx σ M1) : AS B K (tDrop te) σ M Φ := fun W μ H τ o s e E f =>
  h W μ H τ o s e _ fun x M1 W1 μ1 H1 v p f1 r1 => f.nx _ _ _ _ _ _ p f1 (f1.re e)
theorem as_ret (h : AE B K te σ M Φ.rt) : AS B K (tRet te) σ M Φ := fun W μ H τ o s e E f =>
  h W μ H τ o s e _ fun x M1 W1 μ1 H1 v p f1 r1 => f.rt _ _ _ _ _ _ p f1 r1
theorem as_retN (h : Φ.rt (.d .non) M) : AS B K tRetN σ M Φ := fun W μ H τ o s e E f => f.rt _ _ _ _ _ _ h (.refl o s) rfl
theorem as_break (k : Φ.bk σ M) : AS B K tBreak σ M Φ := fun W μ H τ o s e E f => f.bk _ _ _ _ _ _ k (.refl o s) e
theorem as_cont (k : Φ.ct σ M) : AS B K tCont σ M Φ := fun W μ H τ o s e E f => f.ct _ _ _ _ _ _ k (.refl o s) e
theorem as_if {c : TT} (h : AT B K c σ M fun b M1 => (b = true → AS B K t σ M1 Φ) ∧ (b = false → AS B K u σ M1 Φ)) : AS B K (tIfS c t u) σ M Φ := fun W μ H τ o s e E f =>
  h W μ H τ o s e _ fun b M1 W1 μ1 H1 ⟨p1, p2⟩ f1 => by
    cases b with
    | true => exact iteT (p1 rfl W1 μ1 H1 τ f1.ok f1.sim (f1.re e) E (f.mono f1))
    | false => exact iteF (p2 rfl W1 μ1 H1 τ f1.ok f1.sim (f1.re e) E (f.mono f1))
theorem AS.imp {Φ' : AEnds} (h : AS B K t σ M Φ) (f1 : ∀ σ M, Φ.nx σ M → Φ'.nx σ M) (f2 : ∀ σ M, Φ.rt σ M → Φ'.rt σ M) (f3 : ∀ σ M, Φ.bk σ M → Φ'.bk σ M) (f4 : ∀ σ M, Φ.ct σ M → Φ'.ct σ M) : AS B K t σ M Φ' := fun W μ H τ o s e E f =>
  h W μ H τ o s e E ⟨fun σ M W μ H τ p => f.nx σ M W μ H τ (f1 _ _ p), fun σ M W μ H τ p => f.rt σ M W μ H τ (f2 _ _ p), fun σ M W μ H τ p => f.bk σ M W μ H τ (f3 _ _ p), fun σ M W μ H τ p => f.ct σ M W μ H τ (f4 _ _ p)⟩
/-- self.f = e, self a mutable instance -/
theorem as_fld {to : TE} {f : Str} (h : AE B K te σ M fun y M1 => AE B K to σ M1 fun z M2 => ∃ k C ns l, z = .m k ∧ M2[k]? = some (.ins C ns l) ∧ Cls K C ∧ NoAttr K C f ∧ f ∉ ns ∧ ns.length < 1000 ∧ Φ.nx σ (M2.set k (.ins C (ns ++ [f]) (l ++ [y])))) : AS B K (sFld K to te f) σ M Φ := fun W μ H τ o s e E ff =>
  h W μ H τ o s e _ fun y M1 W1 μ1 H1 w p f1 r1 => p W1 μ1 H1 τ f1.ok f1.sim (f1.re e) _ fun z M2 W2 μ2 H2 u ⟨k, C, ns, l, e1, e2, c1, c2, c3, c4, p2⟩ f2 r2 => by
    subst e1
    obtain ⟨a, h1, rfl⟩ := r2
    obtain ⟨dx, vs, h3, h4, h5⟩ := f2.sim.ob k a _ h1 e2
    have hl : ns.length = vs.length := h4.trans h5.length
    have pz : ∀ (ns : List Str) (vs : List V), ns.length = vs.length → f ∉ ns → putF f w (ns.zip vs) = (ns ++ [f]).zip (vs ++ [w]) := by
      intro ns
      induction ns with
      | nil => intro vs h _; cases vs with
        | nil => rfl
        | cons _ _ => cases h
      | cons a ns ih => intro vs h hf; cases vs with
        | nil => cases h
        | cons v vs =>
          show (if a = f then _ else (a, v) :: putF f w (ns.zip vs)) = (a, v) :: (ns ++ [f]).zip (vs ++ [w])
          rw [if_neg (fun z => hf (by rw [z]; exact List.mem_cons_self)), ih vs (by simpa using h) (fun z => hf (List.mem_cons_of_mem _ z))]
    refine ⟨a, C, dx, ns.zip vs, rfl, h3, c1, c2, by rw [List.length_zip, ← hl, Nat.min_self]; exact c4, ?_⟩
    rw [pz ns vs hl c3]
    have f3 := go_set (mo := .ins C (ns ++ [f]) (l ++ [y])) (u := .ins C dx ((ns ++ [f]).zip (vs ++ [w]))) f2.ok f2.sim h1 ⟨dx, _, upd_same, by simp [h4], RAs.append h5 ⟨w, [], rfl, f2.ra r1, rfl⟩⟩
    exact ff.nx _ _ _ _ _ _ p2 ((f1.trans f2).trans f3) (((f1.trans f2).trans f3).re e)
end
/-! ### fields of an instance -/
theorem lookup_zip {W : Hp} {f : Str} {x : AV} {μ : List Addr} : ∀ {ns : List Str} {l : List AV} {vs : List V}, RAs K W μ l vs → (ns.zip l).lookup f = some x → ∃ v, (ns.zip vs).lookup f = some v ∧ RA K W μ x v
  | [], _, _, _, h => by cases h
  | n :: ns, [], _, _, h => by cases h
  | n :: ns, y :: l, _, ⟨v, r, e1, h1, h2⟩, h => by
    subst e1
    rw [List.zip_cons_cons, List.lookup_cons] at h ⊢
    cases e : (f == n) with
    | true => rw [e] at h; cases h; exact ⟨v, rfl, h1⟩
    | false => rw [e] at h; exact lookup_zip h2 h
theorem lookup_zipD {f : Str} {d : D} : ∀ {ns : List Str} {l : List D}, (ns.zip l).lookup f = some d → (ns.zip (l.map AV.d)).lookup f = some (.d d)
  | [], _, h => by cases h
  | n :: ns, [], h => by cases h
  | n :: ns, y :: l, h => by
    rw [List.map_cons, List.zip_cons_cons, List.lookup_cons] at *
    cases e : (f == n) with
    | true => rw [e] at h; cases h; rfl
    | false => rw [e] at h; exact lookup_zipD h
theorem ae_fld {Φ : AV → List MO → Prop} {f : Str} (h : AE B K ta σ M fun z M1 => ∃ C ns l d, z = .d (.ins C ns l) ∧ Cls K C ∧ NoAttr K C f ∧ (ns.zip l).lookup f = some d ∧ Φ (.d d) M1) : AE B K (tFld K ta f) σ M Φ := fun W μ H τ o s e Q q =>
  h W μ H τ o s e _ fun z M1 W1 μ1 H1 v ⟨C, ns, l, d, e1, c1, c2, hl, p⟩ f1 r1 => by
    subst e1
    obtain ⟨a, dx, vs, rfl, h1, h2, h3⟩ := r1
    obtain ⟨w, hw, rw_⟩ := lookup_zip (μ := μ1) (ras_ds h3) (lookup_zipD hl)
    exact ⟨a, C, dx, _, w, rfl, f1.sim.sub _ _ h1, c1, c2, hw, q _ _ _ _ _ _ p f1 rw_⟩
theorem ae_fldM {Φ : AV → List MO → Prop} {f : Str} (h : AE B K ta σ M fun z M1 => ∃ k C ns l x, z = .m k ∧ M1[k]? = some (.ins C ns l) ∧ Cls K C ∧ NoAttr K C f ∧ (ns.zip l).lookup f = some x ∧ Φ x M1) : AE B K (tFld K ta f) σ M Φ := fun W μ H τ o s e Q q =>
  h W μ H τ o s e _ fun z M1 W1 μ1 H1 v ⟨k, C, ns, l, x, e1, hk, c1, c2, hl, p⟩ f1 r1 => by
    subst e1
    obtain ⟨a, ha, rfl⟩ := r1
    obtain ⟨dx, vs, h1, h2, h3⟩ := f1.sim.ob k a _ ha hk
    obtain ⟨w, hw, rw_⟩ := lookup_zip h3 hl
    exact ⟨a, C, dx, _, w, rfl, h1, c1, c2, hw, q _ _ _ _ _ _ p f1 rw_⟩
end
end Al

namespace Al
open PySem PyProof.Rows L2
variable [Al.TabList]
/-! ### forgetting the younger mutable objects -/
def cutV1 (n : Nat) : Option AV → Option AV
  | some (.d x) => some (.d x)
  | some (.m k) => if k < n then some (.m k) else none
  | none => none
def cutE (n : Nat) (σ : AEnv) : AEnv := σ.map (cutV1 n)
/-- a mutable object that stands at the return, as data -/
inductive Froz (n : Nat) (M : List MO) : AV → AV → Prop
  | dat {x : D} : Froz n M (.d x) (.d x)
  | low {k : Nat} (h : k < n) : Froz n M (.m k) (.m k)
  | lst {k : Nat} {l : List D} (hn : n ≤ k) (h : M[k]? = some (.lst l)) : Froz n M (.m k) (.d (.lst l))
  | ins {k : Nat} {C : Addr} {ns : List Str} {l : List D} (hn : n ≤ k) (h : M[k]? = some (.ins C ns (l.map AV.d))) : Froz n M (.m k) (.d (.ins C ns l))
  | dT {k : Nat} {ks : List (List Key)} {l : List D} (hn : n ≤ k) (h : M[k]? = some (.dT ks (l.map AV.d))) : Froz n M (.m k) (.d (.dT ks l))
  | dK {k : Nat} {ks : List Key} {l : List D} (hn : n ≤ k) (h : M[k]? = some (.dK ks (l.map AV.d))) : Froz n M (.m k) (.d (.dK ks l))
  | lls {k : Nat} {js : List Nat} {ls : List (List D)} (hn : n ≤ k) (h : M[k]? = some (.ls (js.map AV.m))) (hl : js.length = ls.length) (hj : ∀ (i j : Nat) (l : List D), js[i]? = some j → ls[i]? = some l → n ≤ j ∧ M[j]? = some (.lst l)) : Froz n M (.m k) (.d (.lst (ls.map D.lst)))
section
variable {B : Base} {K : PySem.W.Frag} {σ : AEnv} {M : List MO} {W W1 H : Hp} {μ μ1 : List Addr}
theorem ra_below {n : Nat} {x : AV} {v : V} (h : RA K W μ x v) (hb : x.below n = true) : RA K W (μ.take n) x v := by
  cases x with
  | d x => exact h
  | m k =>
    obtain ⟨a, h1, h2⟩ := h
    have hk : k < n := by unfold AV.below at hb; exact of_decide_eq_true hb
    exact ⟨a, by rw [List.getElem?_take]; rw [if_pos hk]; exact h1, h2⟩
theorem ras_below {n : Nat} : ∀ {x : List AV} {v : List V}, RAs K W μ x v → x.all (AV.below n) = true → RAs K W (μ.take n) x v
  | [], _, h, _ => h
  | d :: l, _, ⟨v, r, e1, h, t⟩, hb => by
    rw [List.all_cons, Bool.and_eq_true] at hb
    exact ⟨v, r, e1, ra_below h hb.1, ras_below t hb.2⟩
theorem go_cut {n : Nat} (g : Go B K W1 μ1 W μ M H) (hn : μ1.length ≤ n) (h1 : B.μ0.length ≤ n) (hb : ∀ o ∈ M.take n, o.below n = true) : Go B K W1 μ1 W (μ.take n) (M.take n) H := by
  obtain ⟨ext, e1, e2⟩ := g.ok.pre
  obtain ⟨e, he⟩ := g.mext
  refine ⟨⟨g.ok.wsub, g.ok.wnew, g.ok.fr, ⟨ext.take (n - B.μ0.length), ?_, fun a ha => e2 a (List.mem_of_mem_take ha)⟩, g.ok.live⟩, ⟨g.sim.sub, g.sim.nd.sublist (List.take_sublist _ _), by rw [List.length_take, List.length_take, g.sim.len], fun a h => g.sim.out a (List.mem_of_mem_take h), fun k a o q1 q2 => ?_, g.sim.tab, g.sim.tw⟩, g.wext, ⟨e.take (n - μ1.length), ?_⟩⟩
  · rw [e1, List.take_append, List.take_of_length_le h1]
  · have hm := hb o (List.mem_of_getElem? q2)
    rw [List.getElem?_take] at q1 q2
    by_cases hk : k < n
    · rw [if_pos hk] at q1 q2
      have q := g.sim.ob k a o q1 q2
      cases o with
      | lst l => exact q
      | ins C ns l =>
        obtain ⟨dx, vs, z1, z2, z3⟩ := q
        exact ⟨dx, vs, z1, z2, ras_below z3 hm⟩
      | ls l =>
        obtain ⟨vs, z1, z3⟩ := q
        exact ⟨vs, z1, ras_below z3 hm⟩
      | dT ks l =>
        obtain ⟨vs, z1, z2, z3⟩ := q
        exact ⟨vs, z1, z2, ras_below z3 hm⟩
      | dK ks l =>
        obtain ⟨vs, z1, z2, z3⟩ := q
        exact ⟨vs, z1, z2, ras_below z3 hm⟩
    · rw [if_neg hk] at q1; cases q1
  · rw [he, List.take_append, List.take_of_length_le hn]
theorem re_cut {n : Nat} {τ : L2.St} (h : RE K W μ σ τ) : RE K W (μ.take n) (cutE n σ) τ := by
  refine ⟨by unfold cutE; simp [h.1], fun i x q => ?_⟩
  unfold cutE at q
  rw [List.getElem?_map] at q
  cases e : σ[i]? with
  | none => rw [e] at q; cases q
  | some y =>
    rw [e] at q
    simp only [Option.map_some, Option.some.injEq] at q
    cases y with
    | none => cases q
    | some y =>
      obtain ⟨v, h1, h2⟩ := h.2 i y e
      cases y with
      | d z => cases q; exact ⟨v, h1, h2⟩
      | m k =>
        have q : (if k < n then some (AV.m k) else none) = some x := q
        by_cases hk : k < n
        · rw [if_pos hk] at q
          cases q
          exact ⟨v, h1, ra_below h2 (by unfold AV.below; exact decide_eq_true hk)⟩
        · rw [if_neg hk] at q; cases q
/-- P holds of what is left of the state -/
def Cut (n : Nat) (P : AEnv → List MO → Prop) : AEnv → List MO → Prop := fun σ M => (∀ o ∈ M.take n, o.below n = true) ∧ P (cutE n σ) (M.take n)
/-- a frozen object joins what never changes -/
theorem go_frz {n k : Nat} {a : Addr} {u : HO} (g : Go B K W1 μ1 W μ M H) (hn : μ1.length ≤ n) (h1 : B.μ0.length ≤ n) (hb : ∀ o ∈ M.take n, o.below n = true) (hk : n ≤ k) (ha : μ[k]? = some a) (hu : H a = some u) : Go B K W1 μ1 (upd W a u) (μ.take n) (M.take n) H := by
  have g2 := go_cut g hn h1 hb
  have wa : W a = none := g.sim.out a (List.mem_of_getElem? ha)
  have na : a ∉ μ.take n := fun h => by
    obtain ⟨j, hj, e⟩ := List.getElem_of_mem h
    obtain ⟨lk, ek⟩ := List.getElem?_eq_some_iff.mp ha
    rw [List.getElem_take] at e
    have hjn : j < n := by rw [List.length_take] at hj; omega
    have : j = k := (List.getElem_inj g.sim.nd).mp (e.trans ek.symm)
    omega
  have n0 : B.H0 a = none := by
    obtain ⟨ext, e1, e2⟩ := g.ok.pre
    refine e2 a ?_
    rw [e1, List.getElem?_append_right (by omega)] at ha
    exact List.mem_of_getElem? ha
  refine ⟨⟨g2.ok.wsub.trans (same_upd wa), fun b o h => ?_, g2.ok.fr, g2.ok.pre, g2.ok.live⟩, ⟨fun b o h => ?_, g2.sim.nd, g2.sim.len, fun b h => ?_, fun j b o q1 q2 => ?_, g2.sim.tab, fun p hp => by rw [upd_ne (fun z => by obtain ⟨ps, h1, _⟩ := g2.sim.tab p hp; rw [z, hu] at h1; exact (g.sim.plain (List.mem_of_getElem? ha) hu).1 _ (Option.some.inj h1))]; exact g2.sim.tw p hp⟩, g2.wext.trans (same_upd wa), g2.mext⟩
  · by_cases e : b = a
    · subst e; exact .inr (.inl n0)
    · rw [upd_ne e] at h; exact g2.ok.wnew b o h
  · by_cases e : b = a
    · subst e; rw [upd_same] at h; cases h; exact hu
    · rw [upd_ne e] at h; exact g2.sim.sub b o h
  · have : b ≠ a := fun e => na (e ▸ h)
    rw [upd_ne this]; exact g2.sim.out b h
  · have q := (g2.sim.ob j b o q1 q2).mono (μ' := []) (same_upd (o := u) wa) (H' := H) (fun w e => e)
    rwa [List.append_nil] at q
/-- some frozen objects at once -/
theorem go_frzL {n : Nat} {as : List Addr} (g : Go B K W1 μ1 W μ M H) (hn : μ1.length ≤ n) (h1 : B.μ0.length ≤ n) (hb : ∀ o ∈ M.take n, o.below n = true) (has : ∀ a ∈ as, ∃ k : Nat, n ≤ k ∧ μ[k]? = some a) :
    Go B K W1 μ1 (fun b => if b ∈ as then H b else W b) (μ.take n) (M.take n) H ∧ Same W (fun b => if b ∈ as then H b else W b) := by
  have g2 := go_cut g hn h1 hb
  have wa : ∀ a ∈ as, W a = none := fun a ha => by
    obtain ⟨k, _, e⟩ := has a ha
    exact g.sim.out a (List.mem_of_getElem? e)
  have sm : Same W (fun b => if b ∈ as then H b else W b) := fun b o h => by
    show (if b ∈ as then H b else W b) = some o
    rw [if_neg (fun hm => by rw [wa b hm] at h; cases h)]
    exact h
  have na : ∀ a ∈ as, a ∉ μ.take n := fun a ha h => by
    obtain ⟨k, hk, e0⟩ := has a ha
    obtain ⟨j, hj, e⟩ := List.getElem_of_mem h
    obtain ⟨lk, ek⟩ := List.getElem?_eq_some_iff.mp e0
    rw [List.getElem_take] at e
    have hjn : j < n := by rw [List.length_take] at hj; omega
    have : j = k := (List.getElem_inj g.sim.nd).mp (e.trans ek.symm)
    omega
  have n0 : ∀ a ∈ as, B.H0 a = none := fun a ha => by
    obtain ⟨k, hk, e0⟩ := has a ha
    obtain ⟨ext, e1, e2⟩ := g.ok.pre
    refine e2 a ?_
    rw [e1, List.getElem?_append_right (by omega)] at e0
    exact List.mem_of_getElem? e0
  refine ⟨⟨⟨g2.ok.wsub.trans sm, fun b o h => ?_, g2.ok.fr, g2.ok.pre, g2.ok.live⟩, ⟨fun b o h => ?_, g2.sim.nd, g2.sim.len, fun b h => ?_, fun j b o q1 q2 => ?_, g2.sim.tab, fun p hp => ?_⟩, g2.wext.trans sm, g2.mext⟩, sm⟩
  · by_cases e : b ∈ as
    · exact .inr (.inl (n0 b e))
    · have h : (if b ∈ as then H b else W b) = some o := h
      rw [if_neg e] at h; exact g2.ok.wnew b o h
  · have h : (if b ∈ as then H b else W b) = some o := h
    by_cases e : b ∈ as
    · rw [if_pos e] at h; exact h
    · rw [if_neg e] at h; exact g2.sim.sub b o h
  · show (if b ∈ as then H b else W b) = none
    rw [if_neg (fun e => na b e h)]; exact g2.sim.out b h
  · have q := (g2.sim.ob j b o q1 q2).mono (μ' := []) sm (H' := H) (fun w e => e)
    rwa [List.append_nil] at q
  · show (if p.2.1 ∈ as then H p.2.1 else W p.2.1) = none
    rw [if_neg (fun z => by
      obtain ⟨ps, h1, _⟩ := g2.sim.tab p hp
      obtain ⟨k, _, e0⟩ := has _ z
      exact (g.sim.plain (List.mem_of_getElem? e0) h1).1 _ rfl)]
    exact g2.sim.tw p hp
theorem froz_run {n : Nat} {x y : AV} {v : V} (g : Go B K W1 μ1 W μ M H) (hn : μ1.length ≤ n) (h1 : B.μ0.length ≤ n) (hb : ∀ o ∈ M.take n, o.below n = true) (z : Froz n M x y) (r : RA K W μ x v) :
    ∃ W', Go B K W1 μ1 W' (μ.take n) (M.take n) H ∧ RA K W' (μ.take n) y v := by
  cases z with
  | dat => exact ⟨W, go_cut g hn h1 hb, r⟩
  | low hk => exact ⟨W, go_cut g hn h1 hb, ra_below r (by unfold AV.below; exact decide_eq_true hk)⟩
  | @lst k l hk hm =>
    obtain ⟨a, ha, rfl⟩ := r
    obtain ⟨vs, e1, e2⟩ := g.sim.ob k a _ ha hm
    have g3 := go_frz g hn h1 hb hk ha e1
    exact ⟨_, g3, a, vs, rfl, upd_same, RDs.mono (same_upd (g.sim.out a (List.mem_of_getElem? ha))) e2⟩
  | @ins k C ns l hk hm =>
    obtain ⟨a, ha, rfl⟩ := r
    obtain ⟨dx, vs, e1, e2, e3⟩ := g.sim.ob k a _ ha hm
    have g3 := go_frz g hn h1 hb hk ha e1
    exact ⟨_, g3, a, dx, vs, rfl, upd_same, by simpa using e2, RDs.mono (same_upd (g.sim.out a (List.mem_of_getElem? ha))) e3.of_ds⟩
  | @dT k ks l hk hm =>
    obtain ⟨a, ha, rfl⟩ := r
    obtain ⟨vs, e1, e2, e3⟩ := g.sim.ob k a _ ha hm
    have g3 := go_frz g hn h1 hb hk ha e1
    exact ⟨_, g3, a, vs, rfl, upd_same, by simpa using e2, RDs.mono (same_upd (g.sim.out a (List.mem_of_getElem? ha))) e3.of_ds⟩
  | @dK k ks l hk hm =>
    obtain ⟨a, ha, rfl⟩ := r
    obtain ⟨vs, e1, e2, e3⟩ := g.sim.ob k a _ ha hm
    have g3 := go_frz g hn h1 hb hk ha e1
    exact ⟨_, g3, a, vs, rfl, upd_same, by simpa using e2, RDs.mono (same_upd (g.sim.out a (List.mem_of_getElem? ha))) e3.of_ds⟩
  | @lls k js ls hk hm hl hj =>
    obtain ⟨a, ha, rfl⟩ := r
    obtain ⟨vs, e1, e2⟩ := g.sim.ob k a _ ha hm
    have item : ∀ (i : Nat) (v : V), vs[i]? = some v → ∃ (j : Nat) (l : List D) (b : Addr) (us : List V), js[i]? = some j ∧ ls[i]? = some l ∧ n ≤ j ∧ μ[j]? = some b ∧ v = .ref b ∧ H b = some (.lst us) ∧ RDs K W l us := fun i v hv => by
      have li := (List.getElem?_eq_some_iff.mp hv).1
      have lj : i < js.length := by have := e2.length; rw [List.length_map] at this; omega
      have hji : js[i]? = some js[i] := List.getElem?_eq_getElem lj
      have hli : ls[i]? = some (ls[i]'(by omega)) := List.getElem?_eq_getElem (by omega)
      obtain ⟨q1, q2⟩ := hj i _ _ hji hli
      obtain ⟨v', h1, b, h2, h3⟩ := e2.get (i := i) (d := .m js[i]) (by rw [List.getElem?_map, hji]; rfl)
      rw [hv] at h1
      cases h1
      obtain ⟨us, u1, u2⟩ := g.sim.ob _ b _ h2 q2
      exact ⟨_, _, b, us, hji, hli, q1, h2, h3, u1, u2⟩
    obtain ⟨g3, sm⟩ := go_frzL (as := a :: (js.filterMap fun j => μ[j]?)) g hn h1 hb (fun b hb' => by
      rcases List.mem_cons.mp hb' with rfl | hb'
      · exact ⟨k, hk, ha⟩
      · obtain ⟨j, hjm, e⟩ := List.mem_filterMap.mp hb'
        obtain ⟨i, hi, e'⟩ := List.getElem_of_mem hjm
        have lv : i < vs.length := by have := e2.length; rw [List.length_map] at this; omega
        obtain ⟨j', l, b', us, h1, h2, h3, h4, _⟩ := item i vs[i] (List.getElem?_eq_getElem lv)
        rw [List.getElem?_eq_getElem hi, e'] at h1
        cases h1
        exact ⟨j, h3, e⟩)
    refine ⟨_, g3, a, vs, rfl, by show (if a ∈ _ then H a else W a) = _; rw [if_pos List.mem_cons_self]; exact e1, ?_⟩
    have build : ∀ (ls : List (List D)) (vs : List V), ls.length = vs.length → (∀ (i : Nat) (v : V) (l : List D), vs[i]? = some v → ls[i]? = some l → RD K (fun b => if b ∈ a :: (js.filterMap fun j => μ[j]?) then H b else W b) (.lst l) v) → RDs K (fun b => if b ∈ a :: (js.filterMap fun j => μ[j]?) then H b else W b) (ls.map D.lst) vs := by
      intro ls
      induction ls with
      | nil =>
        intro vs hlen _
        cases vs with
        | nil => rfl
        | cons v vs => cases hlen
      | cons l ls ih =>
        intro vs hlen hall
        cases vs with
        | nil => cases hlen
        | cons v vs => exact ⟨v, vs, rfl, hall 0 v l rfl rfl, ih vs (by simpa using hlen) fun i v' l' h1 h2 => hall (i + 1) v' l' (by simpa using h1) (by simpa using h2)⟩
    refine build ls vs (by have := e2.length; rw [List.length_map] at this; omega) fun i v l hv hl' => ?_
    obtain ⟨j, l2, b, us, h1, h2, h3, h4, rfl, h6, h7⟩ := item i v hv
    rw [hl'] at h2
    cases h2
    refine ⟨b, us, rfl, ?_, RDs.mono sm h7⟩
    show (if b ∈ _ then H b else W b) = _
    rw [if_pos (List.mem_cons_of_mem _ (List.mem_filterMap.mpr ⟨j, List.mem_of_getElem? h1, h4⟩))]
    exact h6
theorem ras_isD2 {K : PySem.W.Frag} {W : Hp} {μ μ' : List Addr} : ∀ {x : List AV} {v : List V}, RAs K W μ x v → x.all AV.isD = true → RAs K W μ' x v
  | [], _, h, _ => h
  | .d x :: l, _, ⟨v, r, e1, h, t⟩, q => ⟨v, r, e1, h, ras_isD2 t (by rw [List.all_cons, Bool.and_eq_true] at q; exact q.2)⟩
  | .m k :: l, _, ⟨v, r, e1, h, t⟩, q => by rw [List.all_cons, Bool.and_eq_true] at q; exact absurd q.1 Bool.false_ne_true
theorem or_isD {K : PySem.W.Frag} {W H : Hp} {μ μ' : List Addr} {o : MO} {a : Addr} (h : OR K W μ H o a) (hd : o.isD = true) : OR K W μ' H o a := by
  cases o with
  | lst l => exact h
  | ins C ns l =>
    obtain ⟨dx, vs, h1, h2, h3⟩ := h
    exact ⟨dx, vs, h1, h2, ras_isD2 h3 hd⟩
  | ls l =>
    obtain ⟨vs, h1, h3⟩ := h
    exact ⟨vs, h1, ras_isD2 h3 hd⟩
  | dT ks l =>
    obtain ⟨vs, h1, h2, h3⟩ := h
    exact ⟨vs, h1, h2, ras_isD2 h3 hd⟩
  | dK ks l =>
    obtain ⟨vs, h1, h2, h3⟩ := h
    exact ⟨vs, h1, h2, ras_isD2 h3 hd⟩
/-- of the younger objects one alone is kept -/
theorem go_pick {n k : Nat} {a : Addr} {o : MO} (g : Go B K W1 μ1 W μ M H) (hn : μ1.length ≤ n) (h1 : B.μ0.length ≤ n) (hb : ∀ o ∈ M.take n, o.below n = true) (hk : n ≤ k) (ha : μ[k]? = some a) (ho : M[k]? = some o) (hd : o.isD = true) :
    Go B K W1 μ1 W (μ.take n ++ [a]) (M.take n ++ [o]) H := by
  have g2 := go_cut g hn h1 hb
  have wa : W a = none := g.sim.out a (List.mem_of_getElem? ha)
  have hkl : k < M.length := (List.getElem?_eq_some_iff.mp ho).1
  have hml : (M.take n).length = n := by rw [List.length_take]; omega
  have hμl : (μ.take n).length = n := by rw [List.length_take, g.sim.len]; omega
  have na : a ∉ μ.take n := fun h => by
    obtain ⟨j, hj, e⟩ := List.getElem_of_mem h
    obtain ⟨lk, ek⟩ := List.getElem?_eq_some_iff.mp ha
    rw [List.getElem_take] at e
    have : j = k := (List.getElem_inj g.sim.nd).mp (e.trans ek.symm)
    omega
  have n0 : B.H0 a = none := by
    obtain ⟨ext, e1, e2⟩ := g.ok.pre
    refine e2 a ?_
    rw [e1, List.getElem?_append_right (by omega)] at ha
    exact List.mem_of_getElem? ha
  obtain ⟨ext, e1, e2⟩ := g2.ok.pre
  obtain ⟨ex, he⟩ := g2.mext
  refine ⟨⟨g2.ok.wsub, g2.ok.wnew, g2.ok.fr, ⟨ext ++ [a], by rw [e1, List.append_assoc], fun x hx => ?_⟩, g2.ok.live⟩, ⟨g2.sim.sub, List.nodup_append.mpr ⟨g2.sim.nd, by simp, fun x hx y hy e => ?_⟩, by simp [hml, hμl], fun x hx => ?_, fun j x u q1 q2 => ?_, g2.sim.tab, g2.sim.tw⟩, g2.wext, ⟨ex ++ [a], by rw [he, List.append_assoc]⟩⟩
  · rcases List.mem_append.mp hx with hx | hx
    · exact e2 x hx
    · rw [List.mem_singleton.mp hx]; exact n0
  · rw [List.mem_singleton.mp hy] at e
    exact na (e ▸ hx)
  · rcases List.mem_append.mp hx with hx | hx
    · exact g2.sim.out x hx
    · rw [List.mem_singleton.mp hx]; exact wa
  · by_cases hj : j < n
    · rw [List.getElem?_append_left (by omega)] at q1 q2
      have z := (g2.sim.ob j x u q1 q2).mono (μ' := [a]) (fun _ _ h => h) (H' := H) (fun _ e => e)
      exact z
    · rw [List.getElem?_append_right (by omega)] at q1 q2
      rw [hμl] at q1
      rw [hml] at q2
      have hj0 : j - n = 0 := by
        have := (List.getElem?_eq_some_iff.mp q1).1
        simp at this
        omega
      rw [hj0] at q1 q2
      simp at q1 q2
      subst q1; subst q2
      exact or_isD (g.sim.ob k a o ha ho) hd
/-- the end of a def: n0 objects were handed in -/
def RT (n0 : Nat) (P : AV → List MO → Prop) : AV → List MO → Prop := fun x M => (∃ n y, n0 ≤ n ∧ Froz n M x y ∧ (∀ o ∈ M.take n, o.below n = true) ∧ P y (M.take n)) ∨
  ∃ k o, x = .m k ∧ n0 ≤ k ∧ M[k]? = some o ∧ o.isD = true ∧ (∀ o ∈ M.take n0, o.below n0 = true) ∧ P (.m n0) (M.take n0 ++ [o])
def XT (n0 : Nat) (P : Exc → List MO → Prop) : Exc → List MO → Prop := fun x M => ∃ n, n0 ≤ n ∧ (∀ o ∈ M.take n, o.below n = true) ∧ P x (M.take n)
def defEnds (n0 : Nat) (P : AV → List MO → Prop) : AEnds := { nx := fun _ M => RT n0 P (.d .non) M, rt := RT n0 P }
def startA (N : List Str) (xs : List AV) : AEnv := xs.map some ++ List.replicate (N.length - xs.length) none
theorem re_start {N : List Str} : ∀ {xs : List AV} {vs : List V}, RAs K W μ xs vs → RE K W μ (startA N xs) (L2.start N vs) := fun {xs vs} r => by
  unfold startA L2.start
  refine ⟨by simp [r.length], fun i x q => ?_⟩
  by_cases hi : i < xs.length
  · rw [List.getElem?_append_left (by simpa using hi)] at q
    rw [List.getElem?_append_left (by rw [List.length_map, ← r.length]; exact hi)]
    rw [List.getElem?_map] at q ⊢
    cases e : xs[i]? with
    | none => rw [e] at q; cases q
    | some y =>
      rw [e] at q
      simp only [Option.map_some, Option.some.injEq] at q
      subst q
      obtain ⟨v, h1, h2⟩ := r.get e
      exact ⟨v, by rw [h1]; rfl, h2⟩
  · rw [List.getElem?_append_right (by simp; omega), List.getElem?_replicate] at q
    split at q <;> cases q
end
section
variable {P : Program} {w : World} {K : PySem.W.Frag} {mg : Str → Option Value} {base : Heap}
theorem conc_body {B0 : Type} {asp : ASp} {t : TS} {N : List Str} {vs : List V} {H : Hp} {Q : VK} {E : XK} (h : conc K asp vs H Q E)
    (body : ∀ (B : Base) xs M Φ Ψ, B.μ0.length = M.length → asp xs M Φ Ψ → EFits B K (XT M.length Ψ) E → AS B K t (startA N xs) M (defEnds M.length Φ)) : t { nx := fun _ H' => Q .non H', rt := Q } (L2.start N vs) H := by
  obtain ⟨W, μ, M, xs, s, r, ha⟩ := h
  refine body ⟨W, μ, H⟩ xs M _ _ s.len ha (fun x M1 W1 μ1 H1 cls d ⟨n, hn, hb, p⟩ o1 s1 rx => ?_) W μ H _ Ok.refl s (re_start r) _ ⟨fun σ M1 W1 μ1 H1 τ hz g e => ?_, fun x M1 W1 μ1 H1 v hz g rv => ?_, fun _ _ _ _ _ _ q => q.elim, fun _ _ _ _ _ _ q => q.elim⟩
  · have g : Go ⟨W, μ, H⟩ K W μ W1 μ1 M1 H1 := ⟨o1, s1, o1.wsub, let ⟨e, h, _⟩ := o1.pre; ⟨e, h⟩⟩
    exact p _ _ _ _ _ (go_cut g (by rw [s.len]; exact hn) (by show μ.length ≤ n; rw [s.len]; exact hn) hb) rx
  · rcases hz with ⟨n, y, hn, z, hb, p⟩ | ⟨k, o, ex, _⟩
    · obtain ⟨W2, g2, r2⟩ := froz_run (v := .non) g (by rw [s.len]; exact hn) (by show μ.length ≤ n; rw [s.len]; exact hn) hb z rfl
      exact p _ _ _ _ g2 r2
    · cases ex
  · rcases hz with ⟨n, y, hn, z, hb, p⟩ | ⟨k, o, ex, hk, ho, hd, hb, p⟩
    · obtain ⟨W2, g2, r2⟩ := froz_run g (by rw [s.len]; exact hn) (by show μ.length ≤ n; rw [s.len]; exact hn) hb z rv
      exact p _ _ _ _ g2 r2
    · subst ex
      obtain ⟨a, ha, rfl⟩ := rv
      have g3 := go_pick g (n := M.length) (by rw [s.len]; exact Nat.le_refl _) (by show μ.length ≤ _; rw [s.len]; exact Nat.le_refl _) hb hk ha ho hd
      have hl : k < M1.length := (List.getElem?_eq_some_iff.mp ho).1
      have hμ : (μ1.take M.length).length = M.length := by rw [List.length_take, g.sim.len]; omega
      exact p _ _ _ _ g3 ⟨a, by rw [List.getElem?_append_right (by omega), hμ, Nat.sub_self]; rfl, rfl⟩
/-- a def that raises nothing -/
theorem fn_al {x qual : Str} {st : Stmt} {f : Addr} {fd : FuncData} {N ps : List Str} {k : Nat} {asp : ASp} (F : Fun K x qual st f fd) (S : FnScope N ps (defScope st)) (len : ∀ xs M Φ Ψ, asp xs M Φ Ψ → xs.length = ps.length)
    (hbody : ∀ (cdv : Value) (A : Around) (outer : List Env) (s : Shared) (H : Hp) (E : XK), Room k (A.deeper (envOfC qual (defScope st) s.heap.objs.size f cdv)) →
      ∃ t, PSs (cxOf CX0 P w K mg base N qual (defScope st) f cdv A outer s H E).nox (defBody st) t ∧ ∀ (B : Base) xs M Φ Ψ, B.μ0.length = M.length → asp xs M Φ Ψ → AS B K t (startA N xs) M (defEnds M.length Φ)) : FnOk P w K mg base CX0 (k + 1) f fd ps (conc K asp) := by
  refine F.ok S (fun vs H Q E h => ?_) (fun cdv A outer s H vs Q E hr h => ?_)
  · obtain ⟨W, μ, M, xs, _, r, ha⟩ := h
    rw [← r.length]; exact len _ _ _ _ ha
  · obtain ⟨t, h1, h2⟩ := hbody cdv A outer s H E hr
    exact ⟨t, h1, conc_body (B0 := Unit) h fun B xs M Φ Ψ hB ha _ => h2 B xs M Φ Ψ hB ha⟩
/-- a def that may raise -/
theorem fn_alX {x qual : Str} {st : Stmt} {f : Addr} {fd : FuncData} {N ps : List Str} {k : Nat} {asp : ASp} (F : Fun K x qual st f fd) (S : FnScope N ps (defScope st)) (len : ∀ xs M Φ Ψ, asp xs M Φ Ψ → xs.length = ps.length)
    (hbody : ∀ (cdv : Value) (A : Around) (outer : List Env) (s : Shared) (H : Hp) (E : XK), Room k (A.deeper (envOfC qual (defScope st) s.heap.objs.size f cdv)) →
      ∃ t, PSs (cxOf (L2.CX P w) P w K mg base N qual (defScope st) f cdv A outer s H E) (defBody st) t ∧ ∀ (B : Base) xs M Φ Ψ, B.μ0.length = M.length → asp xs M Φ Ψ → EFits B K (XT M.length Ψ) E → AS B K t (startA N xs) M (defEnds M.length Φ)) : FnOk P w K mg base (L2.CX P w) (k + 1) f fd ps (conc K asp) := by
  refine F.okX S (fun vs H Q E h => ?_) (fun cdv A outer s H vs Q E hr h => ?_)
  · obtain ⟨W, μ, M, xs, _, r, ha⟩ := h
    rw [← r.length]; exact len _ _ _ _ ha
  · obtain ⟨t, h1, h2⟩ := hbody cdv A outer s H E hr
    exact ⟨t, h1, conc_body (B0 := Unit) h h2⟩
end
/-! ### walks -/
section
variable {B : Base} {K : PySem.W.Frag} {σ : AEnv} {M : List MO} {ta tb te tl : TE} {x y : AV}
def ItOk (K : PySem.W.Frag) (W : Hp) (μ : List Addr) (P : List MO → Prop) (J : It) (items : List D) : Prop := ∀ W1 H M e, Same W W1 → Sim K W1 (μ ++ e) M H → P M →
  (∀ i d, items[i]? = some d → J.go i H ∧ ∀ x H', J.yld i H x H' → (H' = H ∧ RD K W1 d x) ∨ ∃ p o, H p = none ∧ H' = upd H p o ∧ RD K (upd W1 p o) d x) ∧ J.stop items.length H
/-- a walk over items that stand while P does -/
def AIP (P : List MO → Prop) (B : Base) (K : PySem.W.Frag) (wi : TI) (σ : AEnv) (M : List MO) (Φ : List D → List MO → Prop) : Prop := ∀ W μ H τ, Ok B W μ H → Sim K W μ M H → RE K W μ σ τ → ∀ R : It → Hp → Prop,
  (∀ items M' W' μ' H' J, Φ items M' → Go B K W μ W' μ' M' H' → ItOk K W' μ' P J items → R J H') → wi τ H R
abbrev AI := AIP (fun _ => True)
theorem ai_list {Φ : List D → List MO → Prop} (h : AE B K tl σ M fun x M1 => ∃ l, x = .d (.lst l) ∧ Φ l M1) : AI B K (iList K tl) σ M Φ := fun W μ H τ o s e R q =>
  h W μ H τ o s e _ fun x M1 W1 μ1 H1 v ⟨l, e1, p⟩ f1 r1 => by
    subst e1
    obtain ⟨a, vs, rfl, h1, h2⟩ := r1
    refine ⟨a, rfl, ⟨vs, SqL.of (f1.sim.sub _ _ h1)⟩, q _ _ _ _ _ _ p f1 fun W2 H2 M2 e2 s1 sm _ => ?_⟩
    have s2 := sm.sub
    have hq : SqL K H2 a vs := SqL.of ((s1.trans s2) _ _ h1)
    refine ⟨fun i d hd => ?_, ⟨vs, hq, by rw [h2.length]; exact Nat.le_refl _⟩⟩
    obtain ⟨v, hv, rv⟩ := h2.get hd
    refine ⟨⟨vs, v, hq, hv⟩, fun x H' ⟨e1, e2⟩ => .inl ⟨e1, ?_⟩⟩
    have := e2 vs hq
    rw [hv] at this; cases this
    exact RD.mono s1 rv
theorem ai_scr {Φ : List D → List MO → Prop} (h : AE B K tl σ M fun x M1 => ∃ l, x = .d (.scr l) ∧ Φ l M1) : AI B K (iList K tl) σ M Φ := fun W μ H τ o s e R q =>
  h W μ H τ o s e _ fun x M1 W1 μ1 H1 v ⟨l, e1, p⟩ f1 r1 => by
    subst e1
    obtain ⟨a, vs, rfl, h1, h2⟩ := r1
    refine ⟨a, rfl, ⟨vs, f1.sim.sub.seq h1⟩, q _ _ _ _ _ _ p f1 fun W2 H2 M2 e2 s1 sm _ => ?_⟩
    have s2 := sm.sub
    have hq := (s1.trans s2).seq h1
    refine ⟨fun i d hd => ?_, ⟨vs, hq, by rw [h2.length]; exact Nat.le_refl _⟩⟩
    obtain ⟨v, hv, rv⟩ := h2.get hd
    refine ⟨⟨vs, v, hq, hv⟩, fun x H' ⟨e1, e2⟩ => .inl ⟨e1, ?_⟩⟩
    have := e2 vs hq
    rw [hv] at this; cases this
    exact RD.mono s1 rv
theorem ai_tup {Φ : List D → List MO → Prop} (h : AE B K tl σ M fun x M1 => ∃ l, x = .d (.tup l) ∧ Φ l M1) : AI B K (iTup K tl) σ M Φ := fun W μ H τ o s e R q =>
  h W μ H τ o s e _ fun x M1 W1 μ1 H1 v ⟨l, e1, p⟩ f1 r1 => by
    subst e1
    obtain ⟨a, vs, rfl, h1, h2⟩ := r1
    refine ⟨a, rfl, ⟨vs, sqt_mono f1.sim.sub h1⟩, q _ _ _ _ _ _ p f1 fun W2 H2 M2 e2 s1 sm _ => ?_⟩
    have s2 := sm.sub
    have hq := sqt_mono (s1.trans s2) h1
    refine ⟨fun i d hd => ?_, ⟨vs, hq, by rw [h2.length]; exact Nat.le_refl _⟩⟩
    obtain ⟨v, hv, rv⟩ := h2.get hd
    refine ⟨⟨vs, v, hq, hv⟩, fun x H' ⟨e1, e2⟩ => .inl ⟨e1, ?_⟩⟩
    have := e2 vs hq
    rw [hv] at this; cases this
    exact RD.mono s1 rv
/-- a mutable list, which stays as it is meanwhile -/
theorem ai_mut {k : Nat} {l : List D} {Φ : List D → List MO → Prop} (h : AE B K tl σ M fun x M1 => x = .m k ∧ M1[k]? = some (.lst l) ∧ Φ l M1) : AIP (fun M => M[k]? = some (.lst l)) B K (iList K tl) σ M Φ := fun W μ H τ o s e R q =>
  h W μ H τ o s e _ fun x M1 W1 μ1 H1 v ⟨e1, hk, p⟩ f1 r1 => by
    subst e1
    obtain ⟨a, ha, rfl⟩ := r1
    obtain ⟨vs0, h1, h2⟩ := f1.sim.ob k a _ ha hk
    refine ⟨a, rfl, ⟨vs0, SqL.of h1⟩, q _ _ _ _ _ _ p f1 fun W2 H2 M2 e2 s1 sm hk2 => ?_⟩
    have ha2 : (μ1 ++ e2)[k]? = some a := by rw [List.getElem?_append_left (List.getElem?_eq_some_iff.mp ha).1]; exact ha
    obtain ⟨vs, h3, h4⟩ := sm.ob k a _ ha2 hk2
    have hq : SqL K H2 a vs := SqL.of h3
    refine ⟨fun i d hd => ?_, ⟨vs, hq, by rw [h4.length]; exact Nat.le_refl _⟩⟩
    obtain ⟨v, hv, rv⟩ := h4.get hd
    refine ⟨⟨vs, v, hq, hv⟩, fun x H' ⟨e1, e2⟩ => .inl ⟨e1, ?_⟩⟩
    have := e2 vs hq
    rw [hv] at this; cases this
    exact rv
def rngD (lo : Int) (n : Nat) : List D := (List.range n).map fun (i : Nat) => D.int (lo + (i : Int))
theorem rngD_len (lo : Int) (n : Nat) : (rngD lo n).length = n := by unfold rngD; simp
theorem rngD_get {lo : Int} {n i : Nat} {d : D} (h : (rngD lo n)[i]? = some d) : i < n ∧ d = .int (lo + (i : Int)) := by
  have hl := (List.getElem?_eq_some_iff.mp h).1
  rw [rngD_len] at hl
  unfold rngD at h
  rw [List.getElem?_map, List.getElem?_range hl] at h
  cases h
  exact ⟨hl, rfl⟩
theorem it_rng {W : Hp} {μ : List Addr} {P : List MO → Prop} {lo : Int} {n : Nat} : ItOk K W μ P (Itr lo n) (rngD lo n) := fun W2 H2 M2 e2 s1 sm _ => by
  have s2 := sm.sub
  refine ⟨fun i d hd => ?_, by rw [rngD_len]; exact Nat.le_refl _⟩
  obtain ⟨hi, rfl⟩ := rngD_get hd
  exact ⟨hi, fun x H' ⟨e1, e2⟩ => .inl ⟨e1, e2⟩⟩
theorem ai_rng1 {ta : TA} {Φ : List D → List MO → Prop} (h : AA B K ta σ M fun xs M1 => ∃ j : Int, xs = [.d (.int j)] ∧ -(2 ^ 62) ≤ j ∧ j < 2 ^ 62 ∧ Φ (rngD 0 j.toNat) M1) : AI B K (iRng1 ta) σ M Φ := fun W μ H τ o s e R q =>
  h W μ H τ o s e _ fun x M1 W1 μ1 H1 v ⟨j, e1, h1, h2, p⟩ f1 r1 => by
    subst e1
    obtain ⟨v, r, rfl, r2, r3⟩ := r1
    cases r2; cases r3
    exact ⟨j, rfl, h1, h2, q _ _ _ _ _ _ p f1 it_rng⟩
theorem ai_rng2 {ta : TA} {Φ : List D → List MO → Prop} (h : AA B K ta σ M fun xs M1 => ∃ i j : Int, xs = [.d (.int i), .d (.int j)] ∧ (-(2 ^ 62) ≤ i ∧ i < 2 ^ 62 ∧ -(2 ^ 62) ≤ j ∧ j < 2 ^ 62) ∧ Φ (rngD i (j - i).toNat) M1) : AI B K (iRng2 ta) σ M Φ := fun W μ H τ o s e R q =>
  h W μ H τ o s e _ fun x M1 W1 μ1 H1 v ⟨i, j, e1, h1, p⟩ f1 r1 => by
    subst e1
    obtain ⟨v, r, rfl, r2, v', r', rfl, r3, r4⟩ := r1
    cases r2; cases r3; cases r4
    exact ⟨i, j, rfl, h1, q _ _ _ _ _ _ p f1 it_rng⟩
def enumD : Nat → List D → List D
  | _, [] => []
  | n, d :: l => .tup [.int (n : Nat), d] :: enumD (n + 1) l
theorem enumD_len : ∀ (n : Nat) (l : List D), (enumD n l).length = l.length
  | _, [] => rfl
  | n, d :: l => by unfold enumD; simp [enumD_len]
theorem enumD_get : ∀ {n : Nat} {l : List D} {i : Nat} {d : D}, (enumD n l)[i]? = some d → ∃ x, l[i]? = some x ∧ d = .tup [.int ((n + i : Nat) : Int), x]
  | _, [], _, _, h => by unfold enumD at h; simp at h
  | n, x :: l, 0, _, h => by unfold enumD at h; simp at h; exact ⟨x, rfl, by rw [← h]; rfl⟩
  | n, x :: l, i + 1, _, h => by
    unfold enumD at h
    obtain ⟨y, h1, h2⟩ := enumD_get (by simpa using h)
    exact ⟨y, by simpa using h1, by rw [h2]; congr 3; omega⟩
theorem ai_enum {ta : TA} {Φ : List D → List MO → Prop} (h : AA B K ta σ M fun xs M1 => ∃ l, xs = [.d (.lst l)] ∧ Φ (enumD 0 l) M1) : AI B K (iEnum K ta) σ M Φ := fun W μ H τ o s e R q =>
  h W μ H τ o s e _ fun x M1 W1 μ1 H1 v ⟨l, e1, p⟩ f1 r1 => by
    subst e1
    obtain ⟨v, r, rfl, r2, r3⟩ := r1
    cases r3
    obtain ⟨a, vs, rfl, h1, h2⟩ := r2
    refine ⟨a, vs, rfl, SqL.of (f1.sim.sub _ _ h1), q _ _ _ _ _ _ p f1 fun W2 H2 M2 e2 s1 sm _ => ?_⟩
    have s2 := sm.sub
    have hq : SqL K H2 a vs := SqL.of ((s1.trans s2) _ _ h1)
    refine ⟨fun i d hd => ?_, ⟨vs, hq, by rw [enumD_len, h2.length]; exact Nat.le_refl _⟩⟩
    obtain ⟨y, hy, rfl⟩ := enumD_get hd
    obtain ⟨v, hv, rv⟩ := h2.get hy
    refine ⟨⟨vs, v, hq, hv⟩, fun x H' ⟨T, z, e1, e2, e3, e4⟩ => .inr ⟨T, _, e2, e3, ?_⟩⟩
    have := e4 vs hq
    rw [hv] at this; cases this
    have wT : W2 T = none := by
      cases e : W2 T with
      | none => rfl
      | some u => rw [s2 T u e] at e2; cases e2
    subst e1
    exact ⟨T, _, rfl, .inl (.inl upd_same), _, _, rfl, by rw [Nat.zero_add]; rfl, _, _, rfl, RD.mono (s1.trans (same_upd wT)) rv, rfl⟩
/-- a turn's item -/
theorem go_item {W : Hp} {μ : List Addr} {H H' : Hp} {d : D} {x : V} (o : Ok B W μ H) (s : Sim K W μ M H) (h : (H' = H ∧ RD K W d x) ∨ ∃ p u, H p = none ∧ H' = upd H p u ∧ RD K (upd W p u) d x) : ∃ W', Go B K W μ W' μ M H' ∧ RD K W' d x := by
  rcases h with ⟨rfl, h⟩ | ⟨p, u, hp, rfl, h⟩
  · exact ⟨W, .refl o s, h⟩
  · exact ⟨_, go_new o s hp, h⟩
/-- for: I the invariant, over the turn; n objects stand at each turn's start -/
theorem as_forP {P : List MO → Prop} {wi : TI} {g : TG} {tb : TS} {Φ : AEnds} {n : Nat} (I : Nat → AEnv → List MO → Prop) (hI : ∀ i σ M, I i σ M → M.length = n) (hP : ∀ i σ M, I i σ M → P M) (h : AIP P B K wi σ M fun items M1 => I 0 σ M1 ∧
      (∀ i d σ' M', items[i]? = some d → I i σ' M' → AG B K g (.d d) σ' M' fun σ2 M2 => AS B K tb σ2 M2 { nx := Cut n (I (i + 1)), ct := Cut n (I (i + 1)), bk := Φ.nx, rt := Φ.rt }) ∧ (∀ σ' M', I items.length σ' M' → Φ.nx σ' M')) : AS B K (tFor wi g tb) σ M Φ := fun W μ H τ o s e E f =>
  h W μ H τ o s e _ fun items M1 W1 μ1 H1 J ⟨h0, hs, hd⟩ f1 ok => by
    have hl : μ1.length = n := by rw [f1.sim.len]; exact hI _ _ _ h0
    have hB : B.μ0.length ≤ n := by
      obtain ⟨ext, e1, _⟩ := f1.ok.pre
      rw [← hl, e1, List.length_append]; omega
    refine ⟨fun i m τ' H' => m = items.length - i ∧ i ≤ items.length ∧ ∃ σ' M' W' , I i σ' M' ∧ Go B K W1 μ1 W' μ1 M' H' ∧ RE K W' μ1 σ' τ', ⟨items.length, rfl, Nat.zero_le _, σ, M1, W1, h0, .refl f1.ok f1.sim, f1.re e⟩, ?_⟩
    rintro i m τ' H' ⟨rfl, hi, σ', M', W', hi1, g1, e1⟩
    have hok := ok W' H' M' [] g1.wext (by rw [List.append_nil]; exact g1.sim) (hP _ _ _ hi1)
    by_cases hlt : i < items.length
    · refine .inr ?_
      obtain ⟨hgo, hy⟩ := hok.1 i items[i] (List.getElem?_eq_getElem hlt)
      refine ⟨hgo, fun τ2 H2 => items.length - (i + 1) = items.length - (i + 1) ∧ i + 1 ≤ items.length ∧ ∃ σ' M' W', I (i + 1) σ' M' ∧ Go B K W1 μ1 W' μ1 M' H2 ∧ RE K W' μ1 σ' τ2, fun τ2 H2 hN => ⟨items.length - (i + 1), by omega, hN⟩, fun x Hx hyx => ?_⟩
      obtain ⟨Wx, gx, rx⟩ := go_item g1.ok g1.sim (hy x Hx hyx)
      refine hs i _ σ' M' (List.getElem?_eq_getElem hlt) hi1 Wx μ1 Hx τ' x gx.ok gx.sim (gx.re e1) rx _ fun σ2 M2 W2 μ2 H2 τ2 p2 f2 e2 => ?_
      have g12 : Go B K W1 μ1 W2 μ2 M2 H2 := (g1.trans gx).trans f2
      have turn : ∀ σ3 M3 W3 μ3 H3 τ3, Cut n (I (i + 1)) σ3 M3 → Go B K W2 μ2 W3 μ3 M3 H3 → RE K W3 μ3 σ3 τ3 → items.length - (i + 1) = items.length - (i + 1) ∧ i + 1 ≤ items.length ∧ ∃ σ' M' W', I (i + 1) σ' M' ∧ Go B K W1 μ1 W' μ1 M' H3 ∧ RE K W' μ1 σ' τ3 := by
        intro σ3 M3 W3 μ3 H3 τ3 ⟨hb, p3⟩ f3 e3
        have g13 := go_cut (g12.trans f3) (Nat.le_of_eq hl) hB hb
        have hm : μ3.take n = μ1 := by
          obtain ⟨e', he'⟩ := (g12.trans f3).mext
          rw [he', List.take_append, List.take_of_length_le (Nat.le_of_eq hl), hl, Nat.sub_self, List.take_zero, List.append_nil]
        have e4 := re_cut (n := n) e3
        rw [hm] at g13 e4
        exact ⟨rfl, hlt, _, _, W3, p3, g13, e4⟩
      exact p2 W2 μ2 H2 τ2 f2.ok f2.sim e2 _ ⟨fun σ3 M3 W3 μ3 H3 τ3 p3 f3 e3 => turn _ _ _ _ _ _ p3 f3 e3, fun y M3 W3 μ3 H3 v3 p3 f3 r3 => f.rt _ _ _ _ _ _ p3 ((f1.trans g12).trans f3) r3, fun σ3 M3 W3 μ3 H3 τ3 p3 f3 e3 => f.nx _ _ _ _ _ _ p3 ((f1.trans g12).trans f3) e3, fun σ3 M3 W3 μ3 H3 τ3 p3 f3 e3 => turn _ _ _ _ _ _ p3 f3 e3⟩
    · have hil : i = items.length := by omega
      subst hil
      exact .inl ⟨hok.2, f.nx _ _ _ _ _ _ (hd _ _ hi1) (f1.trans g1) e1⟩
theorem as_for {wi : TI} {g : TG} {tb : TS} {Φ : AEnds} {n : Nat} (I : Nat → AEnv → List MO → Prop) (hI : ∀ i σ M, I i σ M → M.length = n) (h : AI B K wi σ M fun items M1 => I 0 σ M1 ∧
      (∀ i d σ' M', items[i]? = some d → I i σ' M' → AG B K g (.d d) σ' M' fun σ2 M2 => AS B K tb σ2 M2 { nx := Cut n (I (i + 1)), ct := Cut n (I (i + 1)), bk := Φ.nx, rt := Φ.rt }) ∧ (∀ σ' M', I items.length σ' M' → Φ.nx σ' M')) : AS B K (tFor wi g tb) σ M Φ := as_forP I hI (fun _ _ _ _ => True.intro) h
/-- while -/
theorem as_while {c : TT} {tb : TS} {Φ : AEnds} {n : Nat} (I : Nat → AEnv → List MO → Prop) (hI : ∀ i σ M, I i σ M → M.length = n) (m0 : Nat) (h0 : I m0 σ M)
    (h : ∀ m σ' M', I m σ' M' → AT B K c σ' M' fun b M2 => (b = true → AS B K tb σ' M2 { nx := Cut n (fun σ M => ∃ m', m' < m ∧ I m' σ M), ct := Cut n (fun σ M => ∃ m', m' < m ∧ I m' σ M), bk := Φ.nx, rt := Φ.rt }) ∧ (b = false → Φ.nx σ' M2)) : AS B K (tWhile c tb) σ M Φ := fun W μ H τ o s e E f => by
  have hl : μ.length = n := by rw [s.len]; exact hI _ _ _ h0
  have hB : B.μ0.length ≤ n := by
    obtain ⟨ext, e1, _⟩ := o.pre
    rw [← hl, e1, List.length_append]; omega
  refine ⟨fun m τ' H' => ∃ σ' M' W', I m σ' M' ∧ Go B K W μ W' μ M' H' ∧ RE K W' μ σ' τ', ⟨m0, σ, M, W, h0, .refl o s, e⟩, ?_⟩
  rintro m τ' H' ⟨σ', M', W', hi1, g1, e1⟩
  refine h m σ' M' hi1 W' μ H' τ' g1.ok g1.sim e1 _ fun b M2 W2 μ2 H2 ⟨p1, p2⟩ f2 => ?_
  cases b with
  | false => exact iteF (f.nx _ _ _ _ _ _ (p2 rfl) (g1.trans f2) (f2.re e1))
  | true =>
    refine iteT ⟨fun τ3 H3 => ∃ m', m' < m ∧ ∃ σ' M' W', I m' σ' M' ∧ Go B K W μ W' μ M' H3 ∧ RE K W' μ σ' τ3, fun τ3 H3 h => h, ?_⟩
    have turn : ∀ σ3 M3 W3 μ3 H3 τ3, Cut n (fun σ M => ∃ m', m' < m ∧ I m' σ M) σ3 M3 → Go B K W2 μ2 W3 μ3 M3 H3 → RE K W3 μ3 σ3 τ3 → ∃ m', m' < m ∧ ∃ σ' M' W', I m' σ' M' ∧ Go B K W μ W' μ M' H3 ∧ RE K W' μ σ' τ3 := by
      intro σ3 M3 W3 μ3 H3 τ3 ⟨hb, m', hm', p3⟩ f3 e3
      have g13 := go_cut ((g1.trans f2).trans f3) (Nat.le_of_eq hl) hB hb
      have hm : μ3.take n = μ := by
        obtain ⟨e', he'⟩ := ((g1.trans f2).trans f3).mext
        rw [he', List.take_append, List.take_of_length_le (Nat.le_of_eq hl), hl, Nat.sub_self, List.take_zero, List.append_nil]
      have e4 := re_cut (n := n) e3
      rw [hm] at g13 e4
      exact ⟨m', hm', _, _, W3, p3, g13, e4⟩
    exact p1 rfl W2 μ2 H2 τ' f2.ok f2.sim (f2.re e1) _ ⟨fun σ3 M3 W3 μ3 H3 τ3 p3 f3 e3 => turn _ _ _ _ _ _ p3 f3 e3, fun y M3 W3 μ3 H3 v3 p3 f3 r3 => f.rt _ _ _ _ _ _ p3 ((g1.trans f2).trans f3) r3, fun σ3 M3 W3 μ3 H3 τ3 p3 f3 e3 => f.nx _ _ _ _ _ _ p3 ((g1.trans f2).trans f3) e3, fun σ3 M3 W3 μ3 H3 τ3 p3 f3 e3 => turn _ _ _ _ _ _ p3 f3 e3⟩
end
end Al

namespace Al
open PySem PyProof.Rows L2
variable [Al.TabList]
/-! ### comprehensions -/
def wipeA (σ : AEnv) : List Nat → AEnv
  | [] => σ
  | v :: vs => (wipeA σ vs).set v none
theorem re_wipe {K : PySem.W.Frag} {W : Hp} {μ : List Addr} {σ : AEnv} {τ : L2.St} (h : RE K W μ σ τ) : ∀ vs : List Nat, RE K W μ (wipeA σ vs) (wipe τ vs)
  | [] => h
  | v :: vs => (re_wipe h vs).setN v
theorem wipe_get (τ : L2.St) : ∀ (vs : List Nat) (i : Nat), (wipe τ vs)[i]? = if i ∈ vs then (if i < τ.length then some none else none) else τ[i]?
  | [], i => by unfold wipe; simp
  | v :: vs, i => by
    unfold wipe
    by_cases e : v = i
    · subst e
      rw [List.getElem?_set]
      simp only [if_true, wipe_length, List.mem_cons_self]
    · rw [List.getElem?_set_ne e, wipe_get τ vs i]
      have : (i ∈ v :: vs) ↔ i ∈ vs := by
        rw [List.mem_cons]; constructor
        · rintro (z | z)
          · exact absurd z.symm e
          · exact z
        · exact .inr
      by_cases h : i ∈ vs
      · rw [if_pos h, if_pos (this.mpr h)]
      · rw [if_neg h, if_neg (fun z => h (this.mp z))]
theorem wipe_set {τ : L2.St} {vs : List Nat} {j : Nat} {x : Option V} (h : j ∈ vs) : wipe (τ.set j x) vs = wipe τ vs := by
  apply List.ext_getElem?
  intro i
  rw [wipe_get, wipe_get]
  by_cases hi : i ∈ vs
  · rw [if_pos hi, if_pos hi, List.length_set]
  · rw [if_neg hi, if_neg hi, List.getElem?_set_ne]
    intro e; exact hi (e ▸ h)
theorem wipe_wipe {τ : L2.St} {vs : List Nat} : wipe (wipe τ vs) vs = wipe τ vs := by
  apply List.ext_getElem?
  intro i
  rw [wipe_get, wipe_get, wipe_length]
  by_cases hi : i ∈ vs
  · rw [if_pos hi, if_pos hi]
  · rw [if_neg hi, if_neg hi]
/-- a target stores into these slots alone -/
def GK (g : TG) (vs : List Nat) : Prop := ∀ v τ H Q, g v τ H Q → g v τ H fun τ2 H2 => wipe τ2 vs = wipe τ vs ∧ Q τ2 H2
def GKs (g : TGs) (vs : List Nat) : Prop := ∀ v τ H Q, g v τ H Q → g v τ H fun τ2 H2 => wipe τ2 vs = wipe τ vs ∧ Q τ2 H2
theorem gk_name {i : Nat} {vs : List Nat} (h : vs.contains i = true) : GK (gName i) vs := fun v τ H Q q => ⟨wipe_set (by simpa using h), q⟩
theorem gks_nil {vs : List Nat} : GKs gNil vs := fun v τ H Q ⟨e, q⟩ => ⟨e, rfl, q⟩
theorem gks_name {i : Nat} {gs : TGs} {vs : List Nat} (h : vs.contains i = true) (hs : GKs gs vs) : GKs (gCons (gName i) gs) vs := fun v τ H Q ⟨a, r, e, q⟩ => ⟨a, r, e, by
  have := hs r _ H Q q
  have w : wipe (τ.set i (some a)) vs = wipe τ vs := wipe_set (by simpa using h)
  rw [w] at this
  exact this⟩
theorem gk_tup {K : PySem.W.Frag} {n : Nat} {gs : TGs} {vs : List Nat} (hs : GKs gs vs) : GK (gTup K n gs) vs := fun v τ H Q ⟨a, xs, e, h1, h2, q⟩ => ⟨a, xs, e, h1, h2, hs xs τ H Q q⟩
section
variable {B : Base} {K : PySem.W.Frag} {σ : AEnv} {M : List MO} {ta tb te : TE} {x y : AV}
theorem at_yes {Φ : Bool → List MO → Prop} (k : Φ true M) : AT B K tYes σ M Φ := fun W μ H τ o s e Q q => q _ _ _ _ _ k (.refl o s)
theorem ae_lcP {P : List MO → Prop} {wi : TI} {g : TG} {tt : TT} {vs : List Nat} {Φ : AV → List MO → Prop} {n : Nat} (I : Nat → List D → List MO → Prop) (hI : ∀ i acc M, I i acc M → M.length = n ∧ M.all (MO.below n) = true) (gk : GK g vs) (hP : ∀ i acc M, I i acc M → P (M ++ [.lst acc]))
    (h : AIP P B K wi σ M fun items M1 => I 0 [] M1 ∧ (∀ i d acc M', items[i]? = some d → I i acc M' → AG B K g (.d d) (wipeA σ vs) (M' ++ [.lst acc]) fun σ2 M2 => AT B K tt σ2 M2 fun b M3 =>
        (b = true → AE B K te σ2 M3 fun y M4 => ∃ z M5, y = .d z ∧ M4 = M5 ++ [.lst acc] ∧ acc.length < sizeLine ∧ I (i + 1) (acc ++ [z]) M5) ∧ (b = false → ∃ M5, M3 = M5 ++ [.lst acc] ∧ I (i + 1) acc M5)) ∧
      (∀ acc M', I items.length acc M' → Φ (.d (.lst acc)) M')) : AE B K (tLc wi g tt te vs) σ M Φ := fun W μ H τ o s e Q q =>
  h W μ H τ o s e _ fun items M1 W1 μ1 H1 J ⟨h0, hs, hd⟩ f1 ok Dd hD => by
    have hl : μ1.length = n := by rw [f1.sim.len]; exact (hI _ _ _ h0).1
    have hB : B.μ0.length ≤ n := by
      obtain ⟨ext, e1, _⟩ := f1.ok.pre
      rw [← hl, e1, List.length_append]; omega
    have g0 : Go B K W1 μ1 W1 (μ1 ++ [Dd]) (M1 ++ [.lst []]) (upd H1 Dd (.lst [])) := go_mut f1.ok f1.sim hD ⟨[], upd_same, rfl⟩
    have hDk : (μ1 ++ [Dd])[n]? = some Dd := by rw [← hl, List.getElem?_append_right (Nat.le_refl _), Nat.sub_self]; rfl
    refine ⟨fun i m H' => m = items.length - i ∧ i ≤ items.length ∧ ∃ acc M' W', I i acc M' ∧ Go B K W1 μ1 W' (μ1 ++ [Dd]) (M' ++ [.lst acc]) H', ⟨items.length, rfl, Nat.zero_le _, [], M1, W1, h0, g0⟩, ?_⟩
    rintro i m H' ⟨rfl, hi, acc, M', W', hi1, g1⟩
    have hok := ok W' H' (M' ++ [.lst acc]) [Dd] g1.wext g1.sim (hP _ _ _ hi1)
    have hM' : M'.length = n := (hI _ _ _ hi1).1
    by_cases hlt : i < items.length
    · refine .inr ?_
      obtain ⟨hgo, hy⟩ := hok.1 i items[i] (List.getElem?_eq_getElem hlt)
      refine ⟨hgo, fun H2 => i + 1 ≤ items.length ∧ ∃ acc M' W', I (i + 1) acc M' ∧ Go B K W1 μ1 W' (μ1 ++ [Dd]) (M' ++ [.lst acc]) H2, fun H2 hN => ⟨items.length - (i + 1), by omega, rfl, hN⟩, fun x Hx hyx => ?_⟩
      obtain ⟨Wx, gx, rx⟩ := go_item g1.ok g1.sim (hy x Hx hyx)
      have ex := re_wipe ((g1.trans gx).re (f1.re e)) vs
      have hag := hs i _ acc M' (List.getElem?_eq_getElem hlt) hi1 Wx (μ1 ++ [Dd]) Hx (wipe τ vs) x gx.ok gx.sim ex rx
      -- what is left behind
      have same : ∀ {M2 W2 μ2 H2}, Go B K Wx (μ1 ++ [Dd]) W2 μ2 M2 H2 → M2.length = n + 1 → μ2 = μ1 ++ [Dd] := by
        intro M2 W2 μ2 H2 f hm
        obtain ⟨e', he'⟩ := f.mext
        have hz := f.sim.len
        rw [he', hm] at hz
        have : e'.length = 0 := by simp at hz; omega
        rw [List.eq_nil_of_length_eq_zero this] at he'
        simpa using he'
      have key := gk x (wipe τ vs) Hx _ (hag (fun τ2 H2 => tt τ2 H2 fun b H3 =>
          if b = true then te τ2 H3 fun y H4 => ∃ acc, H4 Dd = some (.lst acc) ∧ acc.length < sizeLine ∧ (i + 1 ≤ items.length ∧ ∃ acc' M' W', I (i + 1) acc' M' ∧ Go B K W1 μ1 W' (μ1 ++ [Dd]) (M' ++ [.lst acc']) (upd H4 Dd (.lst (acc ++ [y])))) else (i + 1 ≤ items.length ∧ ∃ acc M' W', I (i + 1) acc M' ∧ Go B K W1 μ1 W' (μ1 ++ [Dd]) (M' ++ [.lst acc]) H3)) fun σ2 M2 W2 μ2 H2 τ2 p2 f2 e2 => ?_)
      · rw [wipe_wipe] at key
        exact key
      · refine p2 W2 μ2 H2 τ2 f2.ok f2.sim e2 _ fun b M3 W3 μ3 H3 ⟨p3, p4⟩ f3 => ?_
        have gx3 := f2.trans f3
        cases b with
        | false =>
          refine iteF ?_
          obtain ⟨M5, e5, p5⟩ := p4 rfl
          subst e5
          have hμ := same gx3 (by simp [(hI _ _ _ p5).1])
          subst hμ
          exact ⟨hlt, acc, M5, W3, p5, (g1.trans gx).trans gx3⟩
        | true =>
          refine iteT ?_
          refine p3 rfl W3 μ3 H3 τ2 f3.ok f3.sim (f3.re e2) _ fun y M4 W4 μ4 H4 v ⟨z, M5, ez, e5, hz, p5⟩ f4 r4 => ?_
          subst ez; subst e5
          have gx4 := gx3.trans f4
          have hM5 : M5.length = n := (hI _ _ _ p5).1
          have hμ := same gx4 (by simp [hM5])
          subst hμ
          obtain ⟨vs', h1, h2⟩ := f4.sim.ob n Dd (.lst acc) hDk (by rw [← hM5, List.getElem?_append_right (Nat.le_refl _), Nat.sub_self]; rfl)
          have g5 := go_set (mo := .lst (acc ++ [z])) (u := .lst (vs' ++ [v])) f4.ok f4.sim hDk ⟨_, upd_same, RDs.append h2 (RDs.one r4)⟩
          have eM : (M5 ++ [MO.lst acc]).set n (.lst (acc ++ [z])) = M5 ++ [.lst (acc ++ [z])] := by
            rw [List.set_append_right _ _ (by omega), hM5, Nat.sub_self]; rfl
          rw [eM] at g5
          exact ⟨vs', h1, by rw [← h2.length]; exact hz, hlt, acc ++ [z], M5, W4, p5, ((g1.trans gx).trans gx4).trans g5⟩
    · have hil : i = items.length := by omega
      subst hil
      refine .inl ⟨hok.2, ?_⟩
      obtain ⟨vs', h1, h2⟩ := g1.sim.ob n Dd (.lst acc) hDk (by rw [← hM', List.getElem?_append_right (Nat.le_refl _), Nat.sub_self]; rfl)
      by_cases hbl : ∀ o ∈ (M' ++ [MO.lst acc]).take n, o.below n = true
      · have g3 := go_frz g1 (Nat.le_of_eq hl) hB hbl (Nat.le_refl _) hDk h1
        have em : (M' ++ [MO.lst acc]).take n = M' := by rw [List.take_append_of_le_length (by omega), List.take_of_length_le (by omega)]
        have eμ : (μ1 ++ [Dd]).take n = μ1 := by rw [List.take_append_of_le_length (by omega), List.take_of_length_le (by omega)]
        rw [em, eμ] at g3
        exact q _ _ _ _ _ _ (hd _ _ hi1) (f1.trans g3) ⟨Dd, vs', rfl, upd_same, RDs.mono (same_upd (g1.sim.out Dd (List.mem_of_getElem? hDk))) h2⟩
      · refine absurd (fun ob hob => ?_) hbl
        rw [List.take_append_of_le_length (by omega), List.take_of_length_le (by omega)] at hob
        exact List.all_eq_true.mp (hI _ _ _ hi1).2 ob hob
theorem ae_lc {wi : TI} {g : TG} {tt : TT} {vs : List Nat} {Φ : AV → List MO → Prop} {n : Nat} (I : Nat → List D → List MO → Prop) (hI : ∀ i acc M, I i acc M → M.length = n ∧ M.all (MO.below n) = true) (gk : GK g vs)
    (h : AI B K wi σ M fun items M1 => I 0 [] M1 ∧ (∀ i d acc M', items[i]? = some d → I i acc M' → AG B K g (.d d) (wipeA σ vs) (M' ++ [.lst acc]) fun σ2 M2 => AT B K tt σ2 M2 fun b M3 =>
        (b = true → AE B K te σ2 M3 fun y M4 => ∃ z M5, y = .d z ∧ M4 = M5 ++ [.lst acc] ∧ acc.length < sizeLine ∧ I (i + 1) (acc ++ [z]) M5) ∧ (b = false → ∃ M5, M3 = M5 ++ [.lst acc] ∧ I (i + 1) acc M5)) ∧
      (∀ acc M', I items.length acc M' → Φ (.d (.lst acc)) M')) : AE B K (tLc wi g tt te vs) σ M Φ := ae_lcP I hI gk (fun _ _ _ _ => True.intro) h
end
end Al

namespace Al
open PySem PyProof.Rows L2
variable [Al.TabList]
/-! ### sequences, by what they hold -/
inductive SV (M : List MO) : AV → List D → Prop
  | lst (l : List D) : SV M (.d (.lst l)) l
  | scr (l : List D) : SV M (.d (.scr l)) l
  | mm {k : Nat} {l : List D} (h : M[k]? = some (.lst l)) : SV M (.m k) l
section
variable {B : Base} {K : PySem.W.Frag} {σ : AEnv} {M : List MO} {ta tb te : TE} {x y : AV} {Φ : AV → List MO → Prop} {W H : Hp} {μ : List Addr}
theorem SV.run {l : List D} {v : V} (h : SV M x l) (s : Sim K W μ M H) (r : RA K W μ x v) : ∃ a vs, v = .ref a ∧ SqL K H a vs ∧ RDs K W l vs := by
  cases h with
  | lst l => obtain ⟨a, vs, rfl, h1, h2⟩ := r; exact ⟨a, vs, rfl, SqL.of (s.sub _ _ h1), h2⟩
  | scr l => obtain ⟨a, vs, rfl, h1, h2⟩ := r; exact ⟨a, vs, rfl, s.sub.seq h1, h2⟩
  | @mm k l hm =>
    obtain ⟨a, ha, rfl⟩ := r
    obtain ⟨vs, h1, h2⟩ := s.ob k a _ ha hm
    exact ⟨a, vs, rfl, SqL.of h1, h2⟩
/-- a list that may be joined to another one -/
inductive SL (M : List MO) : AV → List D → Prop
  | lst (l : List D) : SL M (.d (.lst l)) l
  | mm {k : Nat} {l : List D} (h : M[k]? = some (.lst l)) : SL M (.m k) l
theorem SL.run {l : List D} {v : V} (h : SL M x l) (s : Sim K W μ M H) (r : RA K W μ x v) : ∃ a vs, v = .ref a ∧ H a = some (.lst vs) ∧ RDs K W l vs := by
  cases h with
  | lst l => obtain ⟨a, vs, rfl, h1, h2⟩ := r; exact ⟨a, vs, rfl, s.sub _ _ h1, h2⟩
  | @mm k l hm =>
    obtain ⟨a, ha, rfl⟩ := r
    obtain ⟨vs, h1, h2⟩ := s.ob k a _ ha hm
    exact ⟨a, vs, rfl, h1, h2⟩
theorem ra_one {xs : List V} (r : RAs K W μ [x] xs) : ∃ v, xs = [v] ∧ RA K W μ x v := by
  obtain ⟨v, t, rfl, h, rfl⟩ := r
  exact ⟨v, rfl, h⟩
theorem ra_two {xs : List V} (r : RAs K W μ [x, y] xs) : ∃ v w, xs = [v, w] ∧ RA K W μ x v ∧ RA K W μ y w := by
  obtain ⟨v, t, rfl, h, w, t', rfl, h', rfl⟩ := r
  exact ⟨v, w, rfl, h, h'⟩
theorem ras_cons {l : List AV} {v : V} {vs : List V} (h : RA K W μ x v) (t : RAs K W μ l vs) : RAs K W μ (x :: l) (v :: vs) := ⟨v, vs, rfl, h, t⟩
theorem ac_len {l : List D} (h : SV M x l) (k : Φ (.d (.int (l.length : Int))) M) : AC B K (fun xs H Q => ∃ p ys, xs = [.ref p] ∧ (SqL K H p ys ∨ SqT K H p ys) ∧ Q (.int ys.length) H) [x] M Φ := fun W μ H us o s r Q q => by
  obtain ⟨v, rfl, r'⟩ := ra_one r
  obtain ⟨a, vs, rfl, h1, h2⟩ := h.run s r'
  exact ⟨a, vs, rfl, .inl h1, by rw [← h2.length]; exact q _ _ _ _ _ _ k (.refl o s) rfl⟩
theorem ac_lenT {l : List D} (k : Φ (.d (.int (l.length : Int))) M) : AC B K (fun xs H Q => ∃ p ys, xs = [.ref p] ∧ (SqL K H p ys ∨ SqT K H p ys) ∧ Q (.int ys.length) H) [.d (.tup l)] M Φ := fun W μ H us o s r Q q => by
  obtain ⟨v, rfl, r'⟩ := ra_one r
  obtain ⟨a, vs, rfl, h1, h2⟩ := r'
  exact ⟨a, vs, rfl, .inr (sqt_mono s.sub h1), by rw [← h2.length]; exact q _ _ _ _ _ _ k (.refl o s) rfl⟩
theorem ac_abs {i : Int} (k : Φ (.d (.int (if i < 0 then -i else i))) M) : AC B K (fun xs H Q => ∃ i, xs = [.int i] ∧ Q (.int (if i < 0 then -i else i)) H) [.d (.int i)] M Φ := fun W μ H us o s r Q q => by
  obtain ⟨v, rfl, r'⟩ := ra_one r
  cases r'
  exact ⟨i, rfl, q _ _ _ _ _ _ k (.refl o s) rfl⟩
theorem ac_min {i j : Int} (k : Φ (.d (.int (if j < i then j else i))) M) : AC B K (fun xs H Q => ∃ i j, xs = [.int i, .int j] ∧ Q (.int (if j < i then j else i)) H) [.d (.int i), .d (.int j)] M Φ := fun W μ H us o s r Q q => by
  obtain ⟨v, w, rfl, r1, r2⟩ := ra_two r
  cases r1; cases r2
  exact ⟨i, j, rfl, q _ _ _ _ _ _ k (.refl o s) rfl⟩
theorem ac_max {i j : Int} (k : Φ (.d (.int (if j > i then j else i))) M) : AC B K (fun xs H Q => ∃ i j, xs = [.int i, .int j] ∧ Q (.int (if j > i then j else i)) H) [.d (.int i), .d (.int j)] M Φ := fun W μ H us o s r Q q => by
  obtain ⟨v, w, rfl, r1, r2⟩ := ra_two r
  cases r1; cases r2
  exact ⟨i, j, rfl, q _ _ _ _ _ _ k (.refl o s) rfl⟩
theorem ac_str {i : Int} (hz : i.natAbs.log2 < 1920) (k : Φ (.d (.str (toString i))) M) : AC B K (fun xs H Q => ∃ i, xs = [.int i] ∧ i.natAbs.log2 < 1920 ∧ Q (.str (toString i)) H) [.d (.int i)] M Φ := fun W μ H us o s r Q q => by
  obtain ⟨v, rfl, r'⟩ := ra_one r
  cases r'
  exact ⟨i, rfl, hz, q _ _ _ _ _ _ k (.refl o s) rfl⟩
/-- list(xs), that will change -/
theorem ac_listM {l : List D} (h : SV M x l) (k : Φ (.m M.length) (M ++ [.lst l])) : AC B K (fun xs H Q => ∃ p ys, xs = [.ref p] ∧ (SqL K H p ys ∨ SqT K H p ys) ∧ ∀ l, H l = none → Q (.ref l) (upd H l (.lst ys))) [x] M Φ := fun W μ H us o s r Q q => by
  obtain ⟨v, rfl, r'⟩ := ra_one r
  obtain ⟨a, vs, rfl, h1, h2⟩ := h.run s r'
  refine ⟨a, vs, rfl, .inl h1, fun p hp => ?_⟩
  refine q _ _ _ _ _ _ k (go_mut (mo := .lst l) o s hp ⟨vs, upd_same, h2⟩) ⟨p, ?_, rfl⟩
  rw [← s.len, List.getElem?_append_right (Nat.le_refl _)]; simp
theorem ac_list {l : List D} (h : SV M x l) (k : Φ (.d (.lst l)) M) : AC B K (fun xs H Q => ∃ p ys, xs = [.ref p] ∧ (SqL K H p ys ∨ SqT K H p ys) ∧ ∀ l, H l = none → Q (.ref l) (upd H l (.lst ys))) [x] M Φ := fun W μ H us o s r Q q => by
  obtain ⟨v, rfl, r'⟩ := ra_one r
  obtain ⟨a, vs, rfl, h1, h2⟩ := h.run s r'
  refine ⟨a, vs, rfl, .inl h1, fun p hp => ?_⟩
  have g := go_new (u := .lst vs) o s hp
  exact q _ _ _ _ _ _ k g ⟨p, vs, rfl, upd_same, h2.mono g.wext⟩
theorem ac_tuple {l : List D} (h : SV M x l) (k : Φ (.d (.tup l)) M) : AC B K (fun xs H Q => ∃ p ys, xs = [.ref p] ∧ ((SqL K H p ys ∧ ∀ l, H l = none → Q (.ref l) (upd H l (.tup ys))) ∨ (SqT K H p ys ∧ Q (.ref p) H))) [x] M Φ := fun W μ H us o s r Q q => by
  obtain ⟨v, rfl, r'⟩ := ra_one r
  obtain ⟨a, vs, rfl, h1, h2⟩ := h.run s r'
  refine ⟨a, vs, rfl, .inl ⟨h1, fun p hp => ?_⟩⟩
  have g := go_new (u := .tup vs) o s hp
  exact q _ _ _ _ _ _ k g ⟨p, vs, rfl, .inl (.inl upd_same), h2.mono g.wext⟩
/-- xs + ys -/
theorem ar_cat {l m : List D} (h : SL M x l) (h' : SL M y m) (hz : l.length + m.length ≤ sizeLine) (k : Φ (.d (.lst (l ++ m))) M) : AR B K rCat x y M Φ := fun W μ H u w o s hu hw Q q => by
  obtain ⟨a, vs, rfl, h1, h2⟩ := h.run s hu
  obtain ⟨b, ws, rfl, h3, h4⟩ := h'.run s hw
  refine ⟨a, b, vs, ws, rfl, rfl, h1, h3, by rw [← h2.length, ← h4.length]; exact hz, fun p hp => ?_⟩
  have g := go_new (u := .lst (vs ++ ws)) o s hp
  exact q _ _ _ _ _ _ k g ⟨p, _, rfl, upd_same, (h2.append h4).mono g.wext⟩

/-! ### == of data -/
mutual
def D.pure : D → Bool
  | .non => true
  | .bl _ => true
  | .int _ => true
  | .str _ => true
  | .tup l => D.pures l
  | .lst l => D.pures l
  | .scr l => D.pures l
  | .ty _ => false
  | .adr _ => false
  | .ins _ _ _ => false
  | .clo _ _ => false
  | .dT _ _ => false
  | .dK _ _ => false
  | .exc _ _ _ _ _ => false
def D.pures : List D → Bool
  | [] => true
  | d :: l => d.pure && D.pures l
end
mutual
def toP : D → PyData
  | .non => .none
  | .bl b => .bool b
  | .int i => .int i
  | .str s => .str s
  | .tup l => .tuple (toPs l)
  | .lst l => .list (toPs l)
  | .scr l => .list (toPs l)
  | .ty _ => .none
  | .adr _ => .none
  | .ins _ _ _ => .none
  | .clo _ _ => .none
  | .dT _ _ => .none
  | .dK _ _ => .none
  | .exc _ _ _ _ _ => .none
def toPs : List D → List PyData
  | [] => []
  | d :: l => toP d :: toPs l
end
mutual
theorem dp_of (e : Same W H) : ∀ {d : D} {v : V}, d.pure = true → RD K W d v → Dp K H v (toP d)
  | .non, _, _, h => by cases h; exact .non
  | .bl _, _, _, h => by cases h; exact .bl _
  | .int _, _, _, h => by cases h; exact .int _
  | .str _, _, _, h => by cases h; exact .str _
  | .ty _, _, hp, h => by cases hp
  | .adr _, _, hp, h => by cases hp
  | .ins _ _ _, _, hp, h => by cases hp
  | .clo _ _, _, hp, h => by cases hp
  | .dT _ _, _, hp, h => by cases hp
  | .dK _ _, _, hp, h => by cases hp
  | .exc _ _ _ _ _, _, hp, h => by cases hp
  | .tup l, _, hp, ⟨a, vs, e1, h, r⟩ => by subst e1; exact .tup (sqt_mono e h) (dps_of e hp r)
  | .lst l, _, hp, ⟨a, vs, e1, h, r⟩ => by subst e1; exact .lst (SqL.of (e _ _ h)) (dps_of e hp r)
  | .scr l, _, hp, ⟨a, vs, e1, h, r⟩ => by subst e1; exact .lst (e.seq h) (dps_of e hp r)
theorem dps_of (e : Same W H) : ∀ {l : List D} {vs : List V}, D.pures l = true → RDs K W l vs → DpAll K H vs (toPs l)
  | [], _, _, h => by cases h; exact .nil
  | d :: l, _, hp, ⟨v, r, e1, h, t⟩ => by
    subst e1
    have hp : (d.pure && D.pures l) = true := hp
    rw [Bool.and_eq_true] at hp
    exact .cons (dp_of e hp.1 h) (dps_of e hp.2 t)
end
/-- data that == is asked of -/
inductive PV (M : List MO) : AV → PyData → Prop
  | d {x : D} (h : x.pure = true) : PV M (.d x) (toP x)
  | mm {k : Nat} {l : List D} (h : M[k]? = some (.lst l)) (hp : D.pures l = true) : PV M (.m k) (.list (toPs l))
theorem PV.run {p : PyData} {v : V} (h : PV M x p) (s : Sim K W μ M H) (r : RA K W μ x v) : Dp K H v p := by
  cases h with
  | d h => exact dp_of s.sub h r
  | @mm k l hm hp =>
    obtain ⟨a, ha, rfl⟩ := r
    obtain ⟨vs, h1, h2⟩ := s.ob k a _ ha hm
    exact .lst (SqL.of h1) (dps_of s.sub hp h2)
theorem ar_eqD {p q : PyData} (hx : PV M x p) (hy : PV M y q) (h1 : SeqAt.shaped p = true) (h2 : SeqAt.shaped q = true) (k : Φ (.d (.bl (PyData.eqv p q))) M) : AR B K (rEqD K) x y M Φ := fun W μ H u w o s hu hw Q qq =>
  ⟨p, q, hx.run s hu, hy.run s hw, h1, h2, qq _ _ _ _ _ _ k (.refl o s) rfl⟩
theorem ar_neD {p q : PyData} (hx : PV M x p) (hy : PV M y q) (h1 : SeqAt.shaped p = true) (h2 : SeqAt.shaped q = true) (k : Φ (.d (.bl (!PyData.eqv p q))) M) : AR B K (rNeD K) x y M Φ := fun W μ H u w o s hu hw Q qq =>
  ⟨p, q, hx.run s hu, hy.run s hw, h1, h2, qq _ _ _ _ _ _ k (.refl o s) rfl⟩

/-! ### isinstance -/
/-- what isinstance asks of a class of the program whose instances are looked at -/
structure InsC (K : PySem.W.Frag) (C : Addr) : Prop where
  cl : Cls K C
  ha : PySem.W.findIn K (.ref C) "__class__" = some (some (.builtin "object.__class__"))
  hn : PySem.W.specialIn K (.builtin "object.__class__") "__get__" = some (some (.builtin "getset_descriptor.__get__"))
  htk : PySem.W.takesIn K (.builtin "object.__class__") = some true
  hm : PySem.W.mroIn K C (.type "object") = some true
def tyD : D → Value
  | .non => .type "NoneType"
  | .bl _ => .type "bool"
  | .int _ => .type "int"
  | .str _ => .type "str"
  | .tup _ => .type "tuple"
  | .lst _ => .type "list"
  | .scr _ => .type "list"
  | .ins C _ _ => .ref C
  | .adr _ => .none
  | .ty _ => .none
  | .clo _ _ => .type "function"
  | .dT _ _ => .type "dict"
  | .dK _ _ => .type "dict"
  | .exc _ _ _ _ _ => .none
def TyK (K : PySem.W.Frag) : D → Prop
  | .ins C _ _ => InsC K C
  | .adr _ => False
  | .ty _ => False
  | .clo _ _ => False
  | .exc _ _ _ _ _ => False
  | _ => True
theorem tyx_of {d : D} {v : V} (e : Same W H) (hk : TyK K d) (h : RD K W d v) : TyX K H v (tyD d) := by
  cases d with
  | non => cases h; exact .base .non
  | bl b => cases h; exact .base (.bl _)
  | int b => cases h; exact .base (.int _)
  | str b => cases h; exact .base (.str _)
  | ty b => exact hk.elim
  | adr b => exact hk.elim
  | clo a u => exact hk.elim
  | dT ks l =>
    obtain ⟨a, vs, rfl, h1, _⟩ := h
    exact .base (.dT (e _ _ h1))
  | dK ks l =>
    obtain ⟨a, vs, rfl, h1, _⟩ := h
    exact .base (.dK (e _ _ h1))
  | exc a dx C ns l => exact hk.elim
  | tup l =>
    obtain ⟨a, vs, rfl, h1, _⟩ := h
    rcases sqt_mono e h1 with (h1 | ⟨o, h1⟩) | ⟨o, its, n, h1, h2, _⟩
    · exact .base (.tup h1)
    · exact .fTuple h1
    · exact .kTuple h1 h2
  | lst l =>
    obtain ⟨a, vs, rfl, h1, _⟩ := h
    exact .base (.lst (e _ _ h1))
  | scr l =>
    obtain ⟨a, vs, rfl, h1, _⟩ := h
    rcases e.seq h1 with (h1 | ⟨o, h1⟩) | ⟨o, its, n, h1, h2, _⟩
    · exact .base (.lst h1)
    · exact .base (.frz h1)
    · exact .kList h1 h2
  | ins C ns l =>
    obtain ⟨a, dx, vs, rfl, h1, _⟩ := h
    exact .base (.ins (e _ _ h1) hk.cl hk.ha hk.hn hk.htk hk.hm)
theorem ac_isiB {d : D} {n : String} {b : Bool} (hk : TyK K d) (hb : PySem.W.kitOne K (tyD d) (.type n) = some b) (k : Φ (.d (.bl b)) M) : AC B K (rIsi K) [.d d, .d (.ty n)] M Φ := fun W μ H us o s r Q q => by
  obtain ⟨v, w, rfl, r1, r2⟩ := ra_two r
  cases r2
  exact ⟨v, _, tyD d, .type n, b, rfl, .ty n, tyx_of s.sub hk r1, hb, q _ _ _ _ _ _ k (.refl o s) rfl⟩
theorem ac_isiC {d : D} {C : Addr} {b : Bool} (hk : TyK K d) (hb : PySem.W.kitOne K (tyD d) (.ref C) = some b) (k : Φ (.d (.bl b)) M) : AC B K (rIsi K) [.d d, .d (.adr C)] M Φ := fun W μ H us o s r Q q => by
  obtain ⟨v, w, rfl, r1, r2⟩ := ra_two r
  cases r2
  exact ⟨v, _, tyD d, .ref C, b, rfl, .own C, tyx_of s.sub hk r1, hb, q _ _ _ _ _ _ k (.refl o s) rfl⟩

/-! ### f-strings -/
theorem ae_fmt (h : AE B K te σ M fun x M1 => (∃ y : Str, x = .d (.str y) ∧ y.length ≤ sizeLine ∧ Φ (.d (.str y)) M1) ∨ ∃ i : Int, x = .d (.int i) ∧ i.natAbs.log2 < 1920 ∧ Φ (.d (.str (toString i))) M1) : AE B K (tFmt te) σ M Φ := fun W μ H τ o s e Q q =>
  h W μ H τ o s e _ fun x M1 W1 μ1 H1 v p f1 r1 => by
    rcases p with ⟨y, rfl, hz, p⟩ | ⟨i, rfl, hz, p⟩
    · cases r1; exact .inl ⟨y, rfl, hz, q _ _ _ _ _ _ p f1 rfl⟩
    · cases r1; exact .inr ⟨i, rfl, hz, q _ _ _ _ _ _ p f1 rfl⟩
theorem ae_js0 {acc : Str} (k : Φ (.d (.str acc)) M) : AE B K (fun σ H Q => tJs [] acc σ H fun out H1 => Q (.str out) H1) σ M Φ := fun W μ H τ o s e Q q => q _ _ _ _ _ _ k (.refl o s) rfl
theorem ae_js {t : TE} {ts : List TE} {acc : Str} (h : AE B K t σ M fun x M1 => ∃ y : Str, x = .d (.str y) ∧ (acc ++ y).length ≤ sizeLine ∧ AE B K (fun σ H Q => tJs ts (acc ++ y) σ H fun out H1 => Q (.str out) H1) σ M1 Φ) : AE B K (fun σ H Q => tJs (t :: ts) acc σ H fun out H1 => Q (.str out) H1) σ M Φ := fun W μ H τ o s e Q q =>
  h W μ H τ o s e _ fun x M1 W1 μ1 H1 v ⟨y, e1, hz, p⟩ f1 r1 => by
    subst e1; cases r1
    exact ⟨y, rfl, hz, p W1 μ1 H1 τ f1.ok f1.sim (f1.re e) _ fun z M2 W2 μ2 H2 w p2 f2 r2 => q _ _ _ _ _ _ p2 (f1.trans f2) r2⟩

/-! ### methods, new instances -/
theorem lookup_zip_none {m : Str} : ∀ {ns : List Str} {vs : List V}, m ∉ ns → (ns.zip vs).lookup m = none
  | [], _, _ => rfl
  | n :: ns, [], _ => rfl
  | n :: ns, v :: vs, h => by
    rw [List.zip_cons_cons, List.lookup_cons]
    have : (m == n) = false := beq_eq_false_iff_ne.mpr fun e => h (by rw [e]; exact List.mem_cons_self)
    rw [this]
    exact lookup_zip_none fun z => h (List.mem_cons_of_mem _ z)
theorem ae_meth {asp : ASp} {C : Addr} {m : Str} {dvs : List V} {das : List AV} {E : XK} {t : TA} {Ψ : Exc → List MO → Prop} (mono : Mono asp) (qe : EFits B K Ψ E) (hd : ∀ W μ, RAs K W μ das dvs)
    (h : AE B K ta σ M fun x M1 => ∃ ns l, x = .d (.ins C ns l) ∧ m ∉ ns ∧ AA B K t σ M1 fun xs M2 => Sent asp (x :: (xs ++ das)) M2 Φ Ψ) : AE B K (tMeth C m (conc K asp) dvs E ta t) σ M Φ := fun W μ H τ o s e Q q =>
  h W μ H τ o s e _ fun x M1 W1 μ1 H1 v ⟨ns, l, e1, hm, p⟩ f1 r1 => by
    subst e1
    have r1' := r1
    obtain ⟨a, dx, vs, rfl, h1, h2, h3⟩ := r1
    refine ⟨a, dx, ns.zip vs, rfl, f1.sim.sub _ _ h1, lookup_zip_none hm, p W1 μ1 H1 τ f1.ok f1.sim (f1.re e) _ fun xs M2 W2 μ2 H2 ws p2 f2 r2 => ?_⟩
    exact sent_run mono f2.ok f2.sim (ras_cons (f2.ra r1') (RAs.append r2 (hd _ _))) p2 (fun z M' W' μ' H' v p3 f3 r3 => q _ _ _ _ _ _ p3 ((f1.trans f2).trans f3) r3) qe
/-- what a new instance is, at its __init__: the last mutable object -/
theorem go_made {C x dx : Addr} (o : Ok B W μ H) (s : Sim K W μ M H) (hx : H x = none) (hdx : H dx = none) (ne : dx ≠ x) : ∃ W', Go B K W μ W' (μ ++ [x]) (M ++ [.ins C [] []]) (upd (upd H dx (.own x)) x (.ins C dx [])) := by
  have g1 := go_new (u := .own x) o s hdx
  have g2 := go_mut (p := x) (u := .ins C dx []) (mo := .ins C [] []) g1.ok g1.sim (by rw [upd_ne ne.symm]; exact hx) ⟨dx, [], upd_same, rfl, rfl⟩
  exact ⟨_, g1.trans g2⟩
/-- the new instance is frozen behind its __init__ -/
def MadeOk (C : Addr) (n : Nat) (Φ : AV → List MO → Prop) : AV → List MO → Prop := fun z M2 => z = .d .non ∧ ∃ ns l M3, M2 = M3 ++ [.ins C ns (l.map AV.d)] ∧ M3.length = n ∧ (∀ o ∈ M3, o.below n = true) ∧ Φ (.d (.ins C ns l)) M3
theorem made_run {C x : Addr} {W1 : Hp} {μ1 : List Addr} {M1 : List MO} {H1 : Hp} {Q : VK} (f1 : Go B K W μ W1 μ1 M1 H1) (hn : μ1.length = M1.length)
    (q : ∀ z M' W' μ' H' v, Φ z M' → Go B K W μ W' μ' M' H' → RA K W' μ' z v → Q v H') :
    ∀ z M' W' μ' H' v Wm Hm, Go B K W1 μ1 Wm (μ1 ++ [x]) (M1 ++ [.ins C [] []]) Hm → MadeOk C M1.length Φ z M' → Go B K Wm (μ1 ++ [x]) W' μ' M' H' → RA K W' μ' z v → v = .non ∧ Q (.ref x) H' := by
  intro z M' W' μ' H' v Wm Hm gm ⟨ez, ns, l, M3, eM, h3, hb, p⟩ g r
  subst ez; subst eM
  cases r
  refine ⟨rfl, ?_⟩
  obtain ⟨e', he'⟩ := g.mext
  have hz := g.sim.len
  rw [he'] at hz
  have : e'.length = 0 := by simp at hz; omega
  rw [List.eq_nil_of_length_eq_zero this, List.append_nil] at he'
  subst he'
  have hk : (μ1 ++ [x])[M1.length]? = some x := by rw [← hn, List.getElem?_append_right (Nat.le_refl _), Nat.sub_self]; rfl
  obtain ⟨dx, vs, w1, w2, w3⟩ := g.sim.ob M1.length x (.ins C ns (l.map AV.d)) hk (by rw [← h3, List.getElem?_append_right (Nat.le_refl _), Nat.sub_self]; rfl)
  have hB : B.μ0.length ≤ M1.length := by
    obtain ⟨ext, e1, _⟩ := f1.ok.pre
    rw [← hn, e1, List.length_append]; omega
  have gg := gm.trans g
  have et : (M3 ++ [MO.ins C ns (l.map AV.d)]).take M1.length = M3 := by rw [List.take_append_of_le_length (by omega), List.take_of_length_le (by omega)]
  have eμ : (μ1 ++ [x]).take M1.length = μ1 := by rw [List.take_append_of_le_length (by omega), List.take_of_length_le (by omega)]
  have g3 := go_frz gg (Nat.le_of_eq hn) hB (fun o ho => hb o (by rw [et] at ho; exact ho)) (Nat.le_refl _) hk w1
  rw [et, eμ] at g3
  exact q _ _ _ _ _ _ p (f1.trans g3) ⟨x, dx, vs, rfl, upd_same, by simpa using w2, RDs.mono (same_upd (g.sim.out x (List.mem_of_getElem? hk))) w3.of_ds⟩
theorem ae_make {asp : ASp} {C : Addr} {dvs : List V} {das : List AV} {E : XK} {t : TA} {Ψ : Exc → List MO → Prop} (mono : Mono asp) (qe : EFits B K Ψ E) (hd : ∀ W μ, RAs K W μ das dvs)
    (h : AA B K t σ M fun xs M1 => Sent asp (.m M1.length :: (xs ++ das)) (M1 ++ [.ins C [] []]) (MadeOk C M1.length Φ) Ψ) : AE B K (tMake C (conc K asp) dvs E t) σ M Φ := fun W μ H τ o s e Q q =>
  h W μ H τ o s e _ fun xs M1 W1 μ1 H1 vs p f1 r1 x dx hx hdx ne => by
    obtain ⟨Wm, gm⟩ := go_made (C := C) f1.ok f1.sim hx hdx ne
    have rx : RA K Wm (μ1 ++ [x]) (.m M1.length) (.ref x) := ⟨x, by rw [← f1.sim.len, List.getElem?_append_right (Nat.le_refl _), Nat.sub_self]; rfl, rfl⟩
    refine sent_run mono gm.ok gm.sim (ras_cons rx (RAs.append (gm.ras r1) (hd _ _))) p (fun z M' W' μ' H' v p2 g r => ?_) qe
    exact made_run f1 f1.sim.len q z M' W' μ' H' v Wm _ gm p2 g r
theorem ae_makeK {asp : ASp} {C : Addr} {n m : Nat} {gV : List V → List V → List V} {gA : List AV → List AV → List AV} {E : XK} {t tk : TA} {Ψ : Exc → List MO → Prop} (mono : Mono asp) (qe : EFits B K Ψ E)
    (hg : ∀ W μ xs ys vs zs, RAs K W μ xs vs → RAs K W μ ys zs → RAs K W μ (gA xs ys) (gV vs zs))
    (h : AA B K t σ M fun xs M1 => AA B K tk σ M1 fun ys M2 => xs.length = n ∧ ys.length = m ∧ Sent asp (gA (.m M2.length :: xs) ys) (M2 ++ [.ins C [] []]) (MadeOk C M2.length Φ) Ψ) : AE B K (tMakeK C n m (conc K asp) gV E t tk) σ M Φ := fun W μ H τ o s e Q q =>
  h W μ H τ o s e _ fun xs M1 W1 μ1 H1 vs p f1 r1 => p W1 μ1 H1 τ f1.ok f1.sim (f1.re e) _ fun ys M2 W2 μ2 H2 zs ⟨l1, l2, p2⟩ f2 r2 => ⟨by rw [← r1.length]; exact l1, by rw [← r2.length]; exact l2, fun x dx hx hdx ne => by
    obtain ⟨Wm, gm⟩ := go_made (C := C) f2.ok f2.sim hx hdx ne
    have rx : RA K Wm (μ2 ++ [x]) (.m M2.length) (.ref x) := ⟨x, by rw [← f2.sim.len, List.getElem?_append_right (Nat.le_refl _), Nat.sub_self]; rfl, rfl⟩
    refine sent_run mono gm.ok gm.sim (hg _ _ _ _ _ _ (ras_cons rx (gm.ras (f2.ras r1))) (gm.ras r2)) p2 (fun z M' W' μ' H' v p3 g r => ?_) qe
    exact made_run (f1.trans f2) f2.sim.len q z M' W' μ' H' v Wm _ gm p3 g r⟩
end
end Al

namespace Ow
open PySem PySem.Spec PyProof.Rows PySem.SeqAt
open AutoSeq1 (wpAny_loadPart')
theorem list_declines (l x : Addr) (items : Array Value) (n : Nat) (dd : Option Addr) (sl : Array (Option Value)) :
    Meets (Builtin.«list.__eq__» ⟨[.ref l, .ref x], []⟩) (fun _ R s => s.heap.get? l = some { cls := .type "list", dict := dd, data := .seq items n, slots := sl } ∧ (∀ M : Model, PySem.W.Looks M s.heap (isInstance (.ref x) (.type "list")) false) ∧ R (.ok (.ret .notImplemented)) s) :=
  .of_wp fun prog w A R s h => by obtain ⟨hp, g, d, tk, os⟩ := s; obtain ⟨hl, hi, h⟩ := h; wp_walk using wpAny_loadPart' hl, (hi _).here; exact ⟨_, rfl, h⟩
theorem tuple_declines (l x : Addr) (items : Array Value) (n : Nat) (dd : Option Addr) (sl : Array (Option Value)) :
    Meets (Builtin.«tuple.__eq__» ⟨[.ref l, .ref x], []⟩) (fun _ R s => s.heap.get? l = some { cls := .type "tuple", dict := dd, data := .seq items n, slots := sl } ∧ (∀ M : Model, PySem.W.Looks M s.heap (isInstance (.ref x) (.type "tuple")) false) ∧ R (.ok (.ret .notImplemented)) s) :=
  .of_wp fun prog w A R s h => by obtain ⟨hp, g, d, tk, os⟩ := s; obtain ⟨hl, hi, h⟩ := h; wp_walk using wpAny_loadPart' hl, (hi _).here; exact ⟨_, rfl, h⟩
theorem int_declines (i : Int) (u : Tok) (x C dx : Addr) :
    Meets (Builtin.«int.__eq__» ⟨[.int i u, .ref x], []⟩) (fun _ R s => s.heap.get? x = some (PySem.W.instObj C dx) ∧ (∀ M : Model, PySem.W.Looks M s.heap (isInstance (.ref x) (.type "int")) false) ∧ R (.ok (.ret .notImplemented)) s) :=
  .of_wp fun prog w A R s h => by obtain ⟨hp, g, d, tk, os⟩ := s; obtain ⟨hl, hi, h⟩ := h; wp_walk using (hi _).here, wpAny_load hl; exact ⟨_, rfl, h⟩
theorem str_declines (i : Str) (u : Tok) (x C dx : Addr) :
    Meets (Builtin.«str.__eq__» ⟨[.str i u, .ref x], []⟩) (fun _ R s => s.heap.get? x = some (PySem.W.instObj C dx) ∧ (∀ M : Model, PySem.W.Looks M s.heap (isInstance (.ref x) (.type "str")) false) ∧ R (.ok (.ret .notImplemented)) s) :=
  .of_wp fun prog w A R s h => by obtain ⟨hp, g, d, tk, os⟩ := s; obtain ⟨hl, hi, h⟩ := h; wp_walk using (hi _).here, wpAny_load hl; exact ⟨_, rfl, h⟩
end Ow

namespace Ow
open PySem PySem.Spec PyProof.Rows PySem.SeqAt PySem.W
open AutoSeq1 (wpAny_loadPart')
section
variable {prog : Program} {w : World} {A : Around} {E : Value → Shared → Prop} {s : Shared} {K : PySem.W.Frag} {x C f : Addr} {ox : Obj} {od : Option Obj}
theorem inst_sub {M : Model} {T : String} {b : Bool} (X : K.In s.heap) (I : InstAt s.heap x ox C od) (h : mroIn K C (.type T) = some b) : Looks M s.heap (isInstance (.ref x) (.type T)) b := I.type.andThen (looks_mroIn X h)
/-- y == x, y of a built-in type whose == declines, x an instance with its own __eq__ -/
theorem rc_right {y : Value} {T id : String} {Q : Value → Shared → Prop} (hu : A.units < cLine) (X : K.In s.heap) (I : InstAt s.heap x ox C od) (hT : s.TypeIs y T) (hsl : Slot T "__eq__" id) (sub : mroIn K C (.type T) = some false)
    (hs : findIn K (.ref C) "__eq__" = some (some (.ref f))) (hf : isFn K (.ref f) = true) (hd : ∀ Q' : Value → Shared → Prop, Q' .notImplemented s → wpAny (model prog w) A (call (.builtin id) [y, .ref x]) Q' E s)
    (h : wpAny (model prog w) A (call (.ref f) [.ref x, y]) (PySem.W.CmpBack Q) E s) : wpAny (model prog w) A (richCompare .Eq y (.ref x)) Q E s := by
  have one : wpAny (model prog w) A (tryCompare (.ref x) "__eq__" y) (fun r s' => ∃ v, r = some v ∧ Q v s') E s := by
    unfold tryCompare
    refine wpAny_bind (ifBound_K X I hs hf (wpAny_mono h (fun v s' hv => ?_) fun _ _ e => e))
    cases v <;> first | exact hv.elim | exact wpAny_pure ⟨_, rfl, hv⟩
  simp only [richCompare, cmpInfo_Eq, hT.oneThing_none]
  refine wpAny_holding (wpAny_bind (wpAny_cRoomFor hu ?_))
  refine wpAny_bind (wpAny_typeOf hT (wpAny_bind (I.type.here ?_)))
  have hne : ((Value.type T != Value.ref C) = true) := rfl
  simp only [hne, if_true]
  refine wpAny_bind ((looks_mroIn X sub).here ?_)
  simp only [Bool.false_eq_true, if_false, Bool.not_false, if_true]
  refine wpAny_bind (m := tryCompare y _ (.ref x)) (wpAny_tryCompare_declines hT hsl (hd _ ⟨rfl, ?_⟩))
  refine wpAny_bind (m := tryCompare (.ref x) _ y) (wpAny_mono one (fun r s' z => ?_) fun _ _ e => e)
  obtain ⟨v, rfl, hq⟩ := z
  exact wpAny_pure hq
/-- x != y by object.__ne__ over the own __eq__ -/
def NotBack (Q : Value → Shared → Prop) (v : Value) (s' : Shared) : Prop := ∃ b, v = .bool b ∧ Q (.bool (!b)) s'
theorem ne_own {b : Value} {tb : Value} {Q : Value → Shared → Prop} (hu : A.in1.units < cLine) (X : K.In s.heap) (I : InstAt s.heap x ox C od) (hb : Looks (model prog w) s.heap (typeOf b) tb) (hn : notFirst K C tb = true)
    (hne : findIn K (.ref C) "__ne__" = some (some (.builtin "object.__ne__"))) (ho : mroIn K C (.type "object") = some true) (hs : findIn K (.ref C) "__eq__" = some (some (.ref f))) (hf : isFn K (.ref f) = true)
    (h : wpAny (model prog w) A.in1 (call (.ref f) [.ref x, b]) (NotBack Q) E s) : wpAny (model prog w) A (richCompare .NotEq (.ref x) b) Q E s := by
  have hu0 : A.units < cLine := by
    have : A.in1.units = A.units + 1 := rfl
    omega
  have in1 : wpAny (model prog w) A.in1 (Builtin.«object.__ne__» ⟨[.ref x, b], []⟩) (fun fin s' => ∃ v, fin = .done (.ret v) ∧ v ≠ .notImplemented ∧ Q v s') E s := by
    unfold Builtin.«object.__ne__»
    refine wpAny_bind (m := slotArgs "__ne__" 1 _) (wpAny_pure ?_)
    refine wpAny_bind (wpAny_cRoomFor hu ?_)
    refine wpAny_bind (m := callSpecialIfBound? (.ref x) _ [b]) (ifBound_K X I hs hf (wpAny_mono h (fun v s' hv => ?_) fun _ _ e => e))
    obtain ⟨k, rfl, q⟩ := hv
    refine wpAny_bind (wpAny_truthy_bool ?_)
    exact wpAny_pure ⟨_, rfl, (fun z => nomatch z), q⟩
  have one : wpAny (model prog w) A (tryCompare (.ref x) "__ne__" b) (fun r s' => ∃ v, r = some v ∧ Q v s') E s := by
    unfold tryCompare
    refine wpAny_bind (NtL.csib ((I.type (M := model prog w)).andThen (looks_findIn X hne)) rfl ?_)
    refine wpAny_call (codeAny_call_builtin F.cmp_object.ne.plain F.cmpEntry_ne (@check_slot (model prog w) _ _ _ "object.__ne__" "object" "__ne__" (.ref x) [b] [] _ F.cmpKind_ne F.cmpSplit_ne (inst_sub X I ho) (F.cmpArgs_ne _ _) ?_))
    refine wpAny_mono in1 (fun fin s' q => ?_) fun _ _ z => z
    obtain ⟨v, rfl, hv, q⟩ := q
    show wpAny _ _ _ _ _ _
    cases v <;> first | exact absurd rfl hv | exact wpAny_pure ⟨_, rfl, q⟩
  simp only [richCompare, cmpInfo_NotEq, oneThing_ref]
  refine wpAny_holding (wpAny_bind (wpAny_cRoomFor hu0 ?_))
  refine wpAny_bind (I.type.here (wpAny_bind (hb.here ?_)))
  split
  · rename_i q
    have e : subIn K tb (.ref C) = some false := by
      rcases Bool.or_eq_true_iff.mp hn with e | e
      · rw [beq_iff_eq.mp e] at q; simp at q
      · exact beq_iff_eq.mp e
    refine wpAny_bind ((looks_subIn X e).here ?_)
    simp only [Bool.false_eq_true, if_false]
    refine wpAny_bind (wpAny_mono one (fun r s' z => ?_) fun _ _ e => e)
    obtain ⟨v, rfl, hq⟩ := z
    exact wpAny_pure hq
  · refine wpAny_bind (wpAny_pure ?_)
    simp only [Bool.false_eq_true, if_false]
    refine wpAny_bind (wpAny_mono one (fun r s' z => ?_) fun _ _ e => e)
    obtain ⟨v, rfl, hq⟩ := z
    exact wpAny_pure hq
end
end Ow

namespace Ow
open PySem PySem.Spec PyProof.Rows PySem.SeqAt PySem.W
open AutoSeq1 (wpAny_loadPart')
open MeetsSeq MeetsSeq2 MeetsSeq3 SeqRoads2
section
variable {prog : Program} {w : World} {A : Around} {R : Result → Shared → Prop}
/-- x in the list at l, whose items stand still while == of each is asked -/
theorem contains_go (l : Addr) (x : Value) (N : Nat) (I : Nat → Shared → Prop)
    (hl : ∀ i s, I i s → ∃ (items : Array Value) (n : Nat), s.heap.get? l = some { cls := .type "list", data := .seq items n } ∧ items.size = N ∧
      ∀ h1 : i < items.size, wpAny (model prog w) A.in1 (eqBool items[i] x) (fun r s' => (r = true → R (.ok (.ret (.bool true))) s') ∧ (r = false → I (i + 1) s')) (fun e s' => R (.error e) s') s)
    (fin : ∀ s, I N s → R (.ok (.ret (.bool false))) s) (k : Nat) :
    ∀ i : Nat, N - i = k → i ≤ N → ∀ s, I i s →
      wpAny (model prog w) A.in1 (Builtin.«list.__contains__.loop» ⟨[.ref l, x, rawInt i], []⟩) (GQ.FinOf prog w A R) (fun e s' => R (.error e) s') s := by
  induction k with
  | zero =>
    intro i hk hi s h
    obtain ⟨items, n, hl1, hs1, _⟩ := hl _ _ h
    have hi' : i = N := by omega
    have hR : R (.ok (.ret (.bool false))) s := fin s (hi' ▸ h)
    obtain ⟨hp, g, d, tk, os⟩ := s
    wp_walk using wpAny_loadPart' hl1
    have hi1 : items[((i : Nat) : Int).toNat]? = none := by simp; omega
    rw [hi1]
    wp_walk
    exact hR
  | succ k ih =>
    intro i hk hi s h
    obtain ⟨items, n, hl1, hs1, turn⟩ := hl _ _ h
    have hlt : i < items.size := by omega
    have ht := turn hlt
    obtain ⟨hp, g, d, tk, os⟩ := s
    wp_walk using wpAny_loadPart' hl1
    have hi1 : items[((i : Nat) : Int).toNat]? = some items[i] := by simp [hlt]
    have hc : ((i : Int) + 1) = ((i + 1 : Nat) : Int) := by omega
    rw [hi1]
    refine wpAny_bind (wpAny_mono ht (fun r s2 h2 => ?_) fun _ _ x => x)
    obtain ⟨ht2, hf2⟩ := h2
    cases r with
    | true =>
      have q := ht2 rfl
      obtain ⟨hp2, g2, d2, tk2, os2⟩ := s2
      wp_walk
      exact q
    | false =>
      have hrec := ih (i + 1) (by omega) (by omega) s2 (hf2 rfl)
      obtain ⟨hp2, g2, d2, tk2, os2⟩ := s2
      wp_walk
      rw [hc]
      exact ⟨plainId_quiet plain_contains_loop _, codeAny_builtin entry_contains_loop (by
        rw [Around.under_plainId plain_contains_loop _]
        exact hrec)⟩
end
section
variable {prog : Program} {w : World} {A : Around} {E : Value → Shared → Prop} {s : Shared}
theorem in_go {l : Addr} {x : Value} {N : Nat} {Q : Bool → Shared → Prop} (I : Nat → Shared → Prop)
    (hl : ∀ i s, I i s → ∃ (items : Array Value) (n : Nat), s.heap.get? l = some { cls := .type "list", data := .seq items n } ∧ items.size = N ∧
      ∀ h1 : i < items.size, wpAny (model prog w) A.in1 (eqBool items[i] x) (fun r s' => (r = true → Q true s') ∧ (r = false → I (i + 1) s')) E s)
    (fin : ∀ s, I N s → Q false s) (h : I 0 s) : wpAny (model prog w) A (contains (.ref l) x) Q E s := by
  obtain ⟨items, n, hl1, _, _⟩ := hl _ _ h
  refine wpAny_contains_slot (T := "list") (id := "list.__contains__") ⟨_, hl1, rfl⟩ PySem.F.slot_list_contains (Q := Q) ?_
  refine GQ.call_here PySem.F.slot_list_contains ⟨_, hl1, rfl⟩ PySem.F.entry_list_contains (PySem.F.args_list_contains_2 _ _) ?_
  have hrec := contains_go (A := A) (R := wants (fun r s' => wpAny (model prog w) A (truthy r) Q E s') E) l x N I (fun i s hi => by
    obtain ⟨items, n, h1, h2, h3⟩ := hl i s hi
    exact ⟨items, n, h1, h2, fun hlt => wpAny_mono (h3 hlt) (fun r s' q => ⟨fun e => wpAny_truthy_bool (q.1 e), q.2⟩) fun _ _ z => z⟩) (fun s q => wpAny_truthy_bool (fin s q)) _ 0 rfl (Nat.zero_le _) s h
  obtain ⟨hp, g, d, tk, os⟩ := s
  wp_walk using wpAny_loadPart' hl1
  exact ⟨plainId_quiet plain_contains_loop _, codeAny_builtin entry_contains_loop (by
    rw [Around.under_plainId plain_contains_loop _]
    exact hrec)⟩
theorem op_in_go {l : Addr} {x : Value} {N : Nat} {Q : Value → Shared → Prop} (I : Nat → Shared → Prop)
    (hl : ∀ i s, I i s → ∃ (items : Array Value) (n : Nat), s.heap.get? l = some { cls := .type "list", data := .seq items n } ∧ items.size = N ∧
      ∀ h1 : i < items.size, wpAny (model prog w) A.in1 (eqBool items[i] x) (fun r s' => (r = true → Q (.bool true) s') ∧ (r = false → I (i + 1) s')) E s)
    (fin : ∀ s, I N s → Q (.bool false) s) (h : I 0 s) : wpAny (model prog w) A (compareOp .In x (.ref l)) Q E s := by
  unfold compareOp
  exact wpAny_bind (wpAny_mono (in_go (Q := fun b s' => Q (.bool b) s') I hl fin h) (fun b s' q => wpAny_pure q) fun _ _ z => z)
theorem op_notIn_go {l : Addr} {x : Value} {N : Nat} {Q : Value → Shared → Prop} (I : Nat → Shared → Prop)
    (hl : ∀ i s, I i s → ∃ (items : Array Value) (n : Nat), s.heap.get? l = some { cls := .type "list", data := .seq items n } ∧ items.size = N ∧
      ∀ h1 : i < items.size, wpAny (model prog w) A.in1 (eqBool items[i] x) (fun r s' => (r = true → Q (.bool false) s') ∧ (r = false → I (i + 1) s')) E s)
    (fin : ∀ s, I N s → Q (.bool true) s) (h : I 0 s) : wpAny (model prog w) A (compareOp .NotIn x (.ref l)) Q E s := by
  unfold compareOp
  exact wpAny_bind (wpAny_mono (in_go (Q := fun b s' => Q (.bool (!b)) s') I hl fin h) (fun b s' q => wpAny_pure q) fun _ _ z => z)
end
end Ow

namespace Ow
open PySem PySem.Spec PyProof.Rows L2
section
variable {X : Cx} {CX : CXT} {pins : List (Addr × Obj)} {σ : L2.St} {H : Hp} {s : Shared} {a C dx g : Addr} {n : Nat} {sp : Sp} {E : XK} {fd : FuncData} {ps : List Str}
/-- the facts of a class with its own methods -/
structure OwnM (K : PySem.W.Frag) (C : Addr) (m : Str) (g : Addr) : Prop where
  hs : PySem.W.findIn K (.ref C) m = some (some (.ref g))
  hf : PySem.W.isFn K (.ref g) = true
theorem inst_at {fs : List (Str × V)} (I : Inv X pins σ H s) (e : H a = some (.ins C dx fs)) : ∃ od, PySem.W.InstAt s.heap a (PySem.W.instObj C dx) C (some od) := by
  obtain ⟨mA, O, _⟩ := ins_get I.hok e
  obtain ⟨od, J, _⟩ := O.look
  exact ⟨od, J⟩
/-- the callee runs below the running body -/
theorem run_below {A : Around} {Q : VK} {us : List Value} {vs : List V} (F : FnOk X.prog X.w X.K X.mg X.base CX n g fd ps sp) (hb : Binds X.K fd ps []) (hr : Room n A) (e0 : Env0 X.prog X.w X.K X.mg X.base A X.stack s H) (hx : Passes CX X E) (I : Inv X pins σ H s) (r : Vals vs us) (h : sp vs H Q E) :
    wpAny (model X.prog X.w) A (call (.ref g) us) (EP X pins σ Q) X.xe s := by
  have hl : (us ++ []).length = ps.length := by rw [List.append_nil, ← r.length]; exact F.len _ _ _ _ h
  have hbb := hb s us I.kIn hl
  rw [List.append_nil] at hbb
  refine wpAny_call (codeAny_mono (F.run A X.stack s H ⟨us, []⟩ us vs Q E hr e0 hbb r h) fun r s' hq => ?_)
  cases r with
  | error e => exact hx pins σ H s e s' I hq
  | ok fl =>
    cases fl with
    | ret u => exact I.after hq
    | next => exact False.elim hq
    | brk => exact False.elim hq
    | cont => exact False.elim hq
theorem cmpback {P : Value → Shared → Prop} {z : V} {v : Value} {s' : Shared} (r : RelV z v) (h : P v s') : PySem.W.CmpBack P v s' := SlX.cmpback r h
/-- x == y, x != y: x an instance of the class at C with its own __eq__ -/
def rOwnE (K : PySem.W.Frag) (C : Addr) (sp : Sp) (E : XK) : R2 := fun x y H Q => ∃ a dx fs t, x = .ref a ∧ H a = some (.ins C dx fs) ∧ TyX K H y t ∧ PySem.W.notFirst K C t = true ∧ sp [x, y] H Q E
theorem op_eqO (hs : OwnM X.K C "__eq__" g) (F : FnOk X.prog X.w X.K X.mg X.base CX n g fd ps sp) (hb : Binds X.K fd ps []) (hr : Room n X.A) (hx : Passes CX X E) : OpR X (compareOp .Eq) (rOwnE X.K C sp E) := by
  intro pins s σ H x y v u Q I rx ry h
  obtain ⟨a, dx, fs, t, rfl, ha, ty, hn, q⟩ := h
  cases (show v = Value.ref a from rx)
  obtain ⟨od, J⟩ := inst_at I ha
  obtain ⟨P, kx, hP, _⟩ := kit_of I ry ty
  obtain ⟨m, hF⟩ := I.fr
  show wpAny _ _ (richCompare .Eq _ _) _ _ _
  refine PySem.W.cmp_K (op := .Eq) (tb := t) hr.units0 hF I.ok.mod.kin J (kx.ty _ _ I.kIn hP) hn hs.hs hs.hf ?_
  refine wpAny_mono (run_below (us := [.ref a, u]) (vs := [.ref a, y]) F hb hr I.env0 hx I (.cons rfl (.cons ry .nil)) q) (fun w s' z => ?_) fun _ _ x => x
  obtain ⟨z', H', I', rz, qz⟩ := z
  exact cmpback rz ⟨z', H', I', rz, qz⟩
def rOwnN (K : PySem.W.Frag) (C : Addr) (sp : Sp) (E : XK) : R2 := fun x y H Q => ∃ a dx fs t, x = .ref a ∧ H a = some (.ins C dx fs) ∧ TyX K H y t ∧ PySem.W.notFirst K C t = true ∧ sp [x, y] H (fun z H' => ∃ b, z = .bl b ∧ Q (.bl (!b)) H') E
theorem op_neO (hs : OwnM X.K C "__eq__" g) (hne : PySem.W.findIn X.K (.ref C) "__ne__" = some (some (.builtin "object.__ne__"))) (ho : PySem.W.mroIn X.K C (.type "object") = some true) (F : FnOk X.prog X.w X.K X.mg X.base CX n g fd ps sp) (hb : Binds X.K fd ps []) (hr : Room (n + 1) X.A) (hx : Passes CX X E) :
    OpR X (compareOp .NotEq) (rOwnN X.K C sp E) := by
  intro pins s σ H x y v u Q I rx ry h
  obtain ⟨a, dx, fs, t, rfl, ha, ty, hn, q⟩ := h
  cases (show v = Value.ref a from rx)
  obtain ⟨od, J⟩ := inst_at I ha
  obtain ⟨P, kx, hP, _⟩ := kit_of I ry ty
  show wpAny _ _ (richCompare .NotEq _ _) _ _ _
  have hr1 : Room n X.A.in1 := hr.in1
  refine ne_own hr1.units0 I.kIn J (kx.ty _ _ I.kIn hP) hn hne ho hs.hs hs.hf ?_
  refine wpAny_mono (run_below (us := [.ref a, u]) (vs := [.ref a, y]) F hb hr1 I.env0.in1 hx I (.cons rfl (.cons ry .nil)) q) (fun w s' z => ?_) fun _ _ x => x
  obtain ⟨z', H', I', rz, b, e, qz⟩ := z
  subst e
  cases (show w = Value.bool b from rz)
  exact ⟨b, rfl, .bl (!b), H', I', rfl, qz⟩
/-- len(x), repr(x) by the own methods -/
def rOwnLen (C : Addr) (sp : Sp) (E : XK) : List V → Hp → VK → Prop := fun xs H Q => ∃ a dx fs, xs = [V.ref a] ∧ H a = some (.ins C dx fs) ∧ sp [.ref a] H (fun z H' => ∃ i : Int, z = .int i ∧ 0 ≤ i ∧ i < 2 ^ 63 ∧ Q (.int i) H') E
theorem call_lenO (hs : OwnM X.K C "__len__" g) (F : FnOk X.prog X.w X.K X.mg X.base CX n g fd ps sp) (hb : Binds X.K fd ps []) (hr : Room (n + 1) X.A) (hx : Passes CX X E) : CallR X (.builtin "len") (rOwnLen C sp E) := by
  intro pins s σ H xs us Q I r h
  obtain ⟨a, dx, fs, rfl, ha, q⟩ := h
  obtain ⟨u, rfl, ru⟩ := r.one
  cases (show u = Value.ref a from ru)
  obtain ⟨od, J⟩ := inst_at I ha
  obtain ⟨m, hF⟩ := I.fr
  refine PySem.W.len_K hF I.ok.mod.kin J hs.hs hs.hf ?_
  refine wpAny_mono (run_below (us := [.ref a]) (vs := [.ref a]) F hb hr.in1 I.env0.in1 hx I (.cons rfl .nil) q) (fun w s' z => ?_) fun _ _ x => x
  obtain ⟨z', H', I', rz, i, e, h1, h2, qz⟩ := z
  subst e
  obtain ⟨t, e⟩ := (show ∃ t, w = Value.int i t from rz)
  cases e
  exact ⟨⟨h1, h2⟩, .int i, H', I'.tok _, ⟨_, rfl⟩, qz⟩
def rOwnRepr (C : Addr) (sp : Sp) (E : XK) : List V → Hp → VK → Prop := fun xs H Q => ∃ a dx fs, xs = [V.ref a] ∧ H a = some (.ins C dx fs) ∧ sp [.ref a] H (fun z H' => ∃ y : Str, z = .str y ∧ Q (.str y) H') E
theorem call_reprO (hs : OwnM X.K C "__repr__" g) (F : FnOk X.prog X.w X.K X.mg X.base CX n g fd ps sp) (hb : Binds X.K fd ps []) (hr : Room (n + 1) X.A) (hx : Passes CX X E) : CallR X (.builtin "repr") (rOwnRepr C sp E) := by
  intro pins s σ H xs us Q I r h
  obtain ⟨a, dx, fs, rfl, ha, q⟩ := h
  obtain ⟨u, rfl, ru⟩ := r.one
  cases (show u = Value.ref a from ru)
  obtain ⟨od, J⟩ := inst_at I ha
  obtain ⟨m, hF⟩ := I.fr
  refine PySem.W.repr_K hr.in1.units0 hF I.ok.mod.kin J hs.hs hs.hf ?_
  refine wpAny_mono (run_below (us := [.ref a]) (vs := [.ref a]) F hb hr.in1 I.env0.in1 hx I (.cons rfl .nil) q) (fun w s' z => ?_) fun _ _ x => x
  obtain ⟨z', H', I', rz, y, e, qz⟩ := z
  subst e
  obtain ⟨t, e⟩ := (show ∃ t, w = Value.str y t from rz)
  cases e
  exact ⟨.str y, H', I', ⟨_, rfl⟩, qz⟩
/-- x in [..]: x an instance with its own __eq__; the items instances of that class, or of other kinds -/
inductive Foreign (K : PySem.W.Frag) (H : Hp) : V → Prop
  | non : Foreign K H .non
  | int (i : Int) : Foreign K H (.int i)
  | str (z : Str) : Foreign K H (.str z)
  | lst {b : Addr} {xs : List V} (h : SqL K H b xs) : Foreign K H (.ref b)
  | tup {b : Addr} {xs : List V} (h : SqT K H b xs) : Foreign K H (.ref b)
def EqGo (K : PySem.W.Frag) (C : Addr) (sp : Sp) (E : XK) (a : Addr) (v : V) (H : Hp) (P : Bool → Hp → Prop) : Prop :=
  (v = .ref a ∧ P true H) ∨ (∃ b dx fs, v = .ref b ∧ b ≠ a ∧ H b = some (.ins C dx fs) ∧ sp [v, .ref a] H (fun z H' => ∃ k, z = .bl k ∧ P k H') E) ∨ (Foreign K H v ∧ sp [.ref a, v] H (fun z H' => ∃ k, z = .bl k ∧ P k H') E)
def InGo (K : PySem.W.Frag) (C : Addr) (sp : Sp) (E : XK) (a l : Addr) (xs : List V) (Qt : Hp → Prop) (Qf : Hp → Prop) : List V → Hp → Prop
  | [], H => Qf H
  | v :: r, H => EqGo K C sp E a v H fun b H' => (∃ dx fs, H' a = some (.ins C dx fs)) ∧ H' l = some (.lst xs) ∧ (b = true → Qt H') ∧ (b = false → InGo K C sp E a l xs Qt Qf r H')
def rInO (K : PySem.W.Frag) (C : Addr) (sp : Sp) (E : XK) (neg : Bool) : R2 := fun x y H Q => ∃ a l xs, x = .ref a ∧ y = .ref l ∧ (∃ dx fs, H a = some (.ins C dx fs)) ∧ H l = some (.lst xs) ∧ InGo K C sp E a l xs (fun H' => Q (.bl (!neg)) H') (fun H' => Q (.bl neg) H') xs H
/-- what of the built-in types the class is not -/
structure OwnC (K : PySem.W.Frag) (C : Addr) : Prop where
  l : PySem.W.mroIn K C (.type "list") = some false
  t : PySem.W.mroIn K C (.type "tuple") = some false
  i : PySem.W.mroIn K C (.type "int") = some false
  s : PySem.W.mroIn K C (.type "str") = some false
  n : PySem.W.mroIn K C (.type "NoneType") = some false
  self : PySem.W.notFirst K C (.ref C) = true
theorem eq_turn {v : V} {u : Value} {P : Bool → Hp → Prop} (hc : OwnC X.K C) (hs : OwnM X.K C "__eq__" g) (F : FnOk X.prog X.w X.K X.mg X.base CX n g fd ps sp) (hb : Binds X.K fd ps []) (hr : Room (n + 1) X.A) (hx : Passes CX X E) {fs : List (Str × V)} (I : Inv X pins σ H s) (ha : H a = some (.ins C dx fs)) (ru : RelV v u)
    (h : EqGo X.K C sp E a v H P) : wpAny (model X.prog X.w) X.A.in1 (eqBool u (.ref a)) (fun r s' => ∃ H', Inv X pins σ H' s' ∧ P r H') X.xe s := by
  obtain ⟨od, J⟩ := inst_at I ha
  have hr1 : Room n X.A.in1 := hr.in1
  have hu := hr1.units0
  unfold eqBool
  refine wpAny_holding ?_
  refine wpAny_ite_split (fun hab => ?_) (fun hab => ?_)
  · -- the very same
    have e : u = .ref a := eq_of_beq hab
    subst e
    refine wpAny_bind (wpAny_rule (wpAny_pure ?_))
    rcases h with ⟨_, p⟩ | ⟨b, dx', fs', rfl, hne, _, _⟩ | ⟨hf, _⟩
    · exact ⟨H, I, p⟩
    · exact absurd (Value.ref.inj (show Value.ref a = Value.ref b from ru)).symm hne
    · exfalso
      cases hf with
      | non => cases (show Value.ref a = Value.none from ru)
      | int i => obtain ⟨t, q⟩ := (show ∃ t, Value.ref a = Value.int i t from ru); cases q
      | str i => obtain ⟨t, q⟩ := (show ∃ t, Value.ref a = Value.str i t from ru); cases q
      | @lst b xs h =>
        cases (show Value.ref a = Value.ref b from ru)
        obtain ⟨its, _, p, _⟩ := I.list h
        obtain ⟨o, n1, ho, hcl, _⟩ := p
        rw [J.at_] at ho; cases ho; cases hcl
      | @tup b xs h =>
        cases (show Value.ref a = Value.ref b from ru)
        obtain ⟨its, _, p, _⟩ := I.tuple h
        obtain ⟨o, ho, hcl, _⟩ := p
        rw [J.at_] at ho; cases ho; cases hcl
  · have nf : ∀ x t y t', ¬ (u = Value.float x t ∧ Value.ref a = Value.float y t') := fun _ _ _ _ z => nomatch z.2
    have go : ∀ (Q2 : Value → Shared → Prop), (∀ k s', (∃ H', Inv X pins σ H' s' ∧ P k H') → Q2 (.bool k) s') → wpAny (model X.prog X.w) X.A.in1 (richCompare .Eq u (.ref a)) Q2 X.xe s := by
      intro Q2 hQ2
      have fin : ∀ w s', EP X pins σ (fun z H' => ∃ k, z = .bl k ∧ P k H') w s' → PySem.W.CmpBack Q2 w s' := fun w s' z => by
        obtain ⟨z', H', I', rz, k, e, qz⟩ := z
        subst e
        cases (show w = Value.bool k from rz)
        exact hQ2 k s' ⟨H', I', qz⟩
      rcases h with ⟨e, p⟩ | ⟨b, dx', fs', rfl, hne, hb', q⟩ | ⟨hf, q⟩
      · subst e
        cases (show u = Value.ref a from ru)
        exact absurd (beq_self_eq_true _) hab
      · cases (show u = Value.ref b from ru)
        obtain ⟨od', J'⟩ := inst_at I hb'
        obtain ⟨m, hF⟩ := I.fr
        refine PySem.W.cmp_K (op := .Eq) (tb := .ref C) hu hF I.ok.mod.kin J' J.type hc.self hs.hs hs.hf ?_
        exact wpAny_mono (run_below (us := [.ref b, .ref a]) (vs := [.ref b, .ref a]) F hb hr1 I.env0.in1 hx I (.cons rfl (.cons rfl .nil)) q) (fun w s' z => fin w s' z) fun _ _ x => x
      · have run := fun (hv : Vals [.ref a, v] [.ref a, u]) => wpAny_mono (run_below (A := X.A.in1) (us := [.ref a, u]) (vs := [.ref a, v]) F hb hr1 I.env0.in1 hx I hv q) (fun w s' z => fin w s' z) fun _ _ x => x
        have hv : Vals [.ref a, v] [.ref a, u] := .cons rfl (.cons ru .nil)
        cases hf with
        | non =>
          cases (show u = Value.none from ru)
          exact rc_right (T := "NoneType") hu I.kIn J (typeIs_none _) PySem.F.slot_NoneType_eq hc.n hs.hs hs.hf (fun Q' hq => call_gives PySem.F.slot_NoneType_eq (typeIs_none _) PySem.F.entry_NoneType_eq (PySem.F.args_NoneType_eq_2 _ _) (SeqAt.NoneType___eq___none_ref_0 a) hq) (run hv)
        | int i =>
          obtain ⟨t, rfl⟩ := (show ∃ t, u = Value.int i t from ru)
          exact rc_right (T := "int") hu I.kIn J (typeIs_int _ _ _) PySem.F.slot_int_eq hc.i hs.hs hs.hf (fun Q' hq => call_meets PySem.F.slot_int_eq (typeIs_int _ _ _) PySem.F.entry_int_eq (PySem.F.args_int_eq_2 _ _) (int_declines i t a C dx) ⟨J.at_, fun M => inst_sub I.kIn J hc.i, hq⟩) (run hv)
        | str i =>
          obtain ⟨t, rfl⟩ := (show ∃ t, u = Value.str i t from ru)
          exact rc_right (T := "str") hu I.kIn J (typeIs_str _ _ _) PySem.F.slot_str_eq hc.s hs.hs hs.hf (fun Q' hq => call_meets PySem.F.slot_str_eq (typeIs_str _ _ _) PySem.F.entry_str_eq (PySem.F.args_str_eq_2 _ _) (str_declines i t a C dx) ⟨J.at_, fun M => inst_sub I.kIn J hc.s, hq⟩) (run hv)
        | @lst b xs h =>
          cases (show u = Value.ref b from ru)
          obtain ⟨its, _, ⟨⟨cls, dd, data, sls⟩, n1, ho, hcl, hdd, hdt⟩, _⟩ := I.list h
          simp only at hcl hdt
          subst hcl; subst hdt
          exact rc_right (T := "list") hu I.kIn J ⟨_, ho, rfl⟩ PySem.F.slot_list_eq hc.l hs.hs hs.hf (fun Q' hq => call_meets PySem.F.slot_list_eq ⟨_, ho, rfl⟩ PySem.F.entry_list_eq (PySem.F.args_list_eq_2 _ _) (list_declines b a _ n1 dd sls) ⟨ho, fun M => inst_sub I.kIn J hc.l, hq⟩) (run hv)
        | @tup b xs h =>
          cases (show u = Value.ref b from ru)
          obtain ⟨its, _, ⟨⟨cls, dd, data, sls⟩, ho, hcl, n1, hdt⟩, _⟩ := I.tuple h
          simp only at hcl hdt
          subst hcl; subst hdt
          exact rc_right (T := "tuple") hu I.kIn J ⟨_, ho, rfl⟩ PySem.F.slot_tuple_eq hc.t hs.hs hs.hf (fun Q' hq => call_meets PySem.F.slot_tuple_eq ⟨_, ho, rfl⟩ PySem.F.entry_tuple_eq (PySem.F.args_tuple_eq_2 _ _) (tuple_declines b a _ n1 dd sls) ⟨ho, fun M => inst_sub I.kIn J hc.t, hq⟩) (run hv)
    have tail : wpAny (model X.prog X.w) X.A.in1 (do truthOfDropped (← richCompare .Eq u (.ref a))) (fun r s' => ∃ H', Inv X pins σ H' s' ∧ P r H') X.xe s :=
      wpAny_bind (go _ fun k s' q => wpAny_truthy_bool q)
    cases u <;> exact tail
end
end Ow

namespace Ow
open PySem PySem.Spec PyProof.Rows L2
section
variable {X : Cx} {CX : CXT} {pins : List (Addr × Obj)} {σ : L2.St} {H : Hp} {s : Shared} {a C dx g : Addr} {n : Nat} {sp : Sp} {E : XK} {fd : FuncData} {ps : List Str}
theorem lst_at {l : Addr} {xs : List V} (I : Inv X pins σ H s) (h : H l = some (.lst xs)) : ∃ its n, Vals xs its ∧ s.heap.get? l = some { cls := .type "list", data := .seq its.toArray n } := by
  obtain ⟨_, its, n, r, e⟩ := (show ObjOk X.prog X.w H s.heap l (.lst xs) from I.hok l _ h)
  exact ⟨its, n, r, e⟩
theorem in_turns {l : Addr} {xs : List V} {Qt Qf : Hp → Prop} (hc : OwnC X.K C) (hs : OwnM X.K C "__eq__" g) (F : FnOk X.prog X.w X.K X.mg X.base CX n g fd ps sp) (hb : Binds X.K fd ps []) (hr : Room (n + 1) X.A) (hx : Passes CX X E) :
    ∀ i s, (∃ H', Inv X pins σ H' s ∧ (∃ dx fs, H' a = some (.ins C dx fs)) ∧ H' l = some (.lst xs) ∧ InGo X.K C sp E a l xs Qt Qf (xs.drop i) H') →
      ∃ (items : Array Value) (m : Nat), s.heap.get? l = some { cls := .type "list", data := .seq items m } ∧ items.size = xs.length ∧
        ∀ h1 : i < items.size, wpAny (model X.prog X.w) X.A.in1 (eqBool items[i] (.ref a)) (fun r s' => (r = true → ∃ H', Inv X pins σ H' s' ∧ Qt H') ∧
          (r = false → ∃ H', Inv X pins σ H' s' ∧ (∃ dx fs, H' a = some (.ins C dx fs)) ∧ H' l = some (.lst xs) ∧ InGo X.K C sp E a l xs Qt Qf (xs.drop (i + 1)) H')) X.xe s := by
  rintro i s ⟨H', I, ⟨dx, fs, ha⟩, hl, hg⟩
  obtain ⟨its, m, rv, e⟩ := lst_at I hl
  refine ⟨its.toArray, m, e, by simp [rv.length], fun h1 => ?_⟩
  have hi : i < xs.length := by have := rv.length; simp at h1; omega
  rw [List.drop_eq_getElem_cons hi] at hg
  obtain ⟨u, hu, ru⟩ := rv.get (i := i) (x := xs[i]) (List.getElem?_eq_getElem hi)
  have hit : its.toArray[i] = u := by
    have : its[i]? = some u := hu
    obtain ⟨hh, ee⟩ := List.getElem?_eq_some_iff.mp this
    simpa using ee
  rw [hit]
  refine wpAny_mono (eq_turn hc hs F hb hr hx I ha ru hg) (fun r s' q => ?_) fun _ _ z => z
  obtain ⟨H2, I2, h2, h3, h4, h5⟩ := q
  exact ⟨fun er => ⟨H2, I2, h4 er⟩, fun er => ⟨H2, I2, h2, h3, h5 er⟩⟩
theorem op_inO (hc : OwnC X.K C) (hs : OwnM X.K C "__eq__" g) (F : FnOk X.prog X.w X.K X.mg X.base CX n g fd ps sp) (hb : Binds X.K fd ps []) (hr : Room (n + 1) X.A) (hx : Passes CX X E) : OpR X (compareOp .In) (rInO X.K C sp E false) := by
  intro pins s σ H x y v u Q I rx ry h
  obtain ⟨a, l, xs, rfl, rfl, ha, hl, hg⟩ := h
  cases (show v = Value.ref a from rx)
  cases (show u = Value.ref l from ry)
  refine op_in_go (N := xs.length) (fun i s => ∃ H', Inv X pins σ H' s ∧ (∃ dx fs, H' a = some (.ins C dx fs)) ∧ H' l = some (.lst xs) ∧ InGo X.K C sp E a l xs (fun H' => Q (.bl true) H') (fun H' => Q (.bl false) H') (xs.drop i) H')
    (fun i s hi => ?_) (fun s hi => ?_) ⟨H, I, ha, hl, by rw [List.drop_zero]; exact hg⟩
  · obtain ⟨items, m, h1, h2, h3⟩ := in_turns hc hs F hb hr hx i s hi
    exact ⟨items, m, h1, h2, fun hlt => wpAny_mono (h3 hlt) (fun r s' q => ⟨fun e => let ⟨H', I', q'⟩ := q.1 e; ⟨.bl true, H', I', rfl, q'⟩, q.2⟩) fun _ _ z => z⟩
  · obtain ⟨H', I', _, _, hg⟩ := hi
    rw [List.drop_length] at hg
    exact ⟨.bl false, H', I', rfl, hg⟩
theorem op_notInO (hc : OwnC X.K C) (hs : OwnM X.K C "__eq__" g) (F : FnOk X.prog X.w X.K X.mg X.base CX n g fd ps sp) (hb : Binds X.K fd ps []) (hr : Room (n + 1) X.A) (hx : Passes CX X E) : OpR X (compareOp .NotIn) (rInO X.K C sp E true) := by
  intro pins s σ H x y v u Q I rx ry h
  obtain ⟨a, l, xs, rfl, rfl, ha, hl, hg⟩ := h
  cases (show v = Value.ref a from rx)
  cases (show u = Value.ref l from ry)
  refine op_notIn_go (N := xs.length) (fun i s => ∃ H', Inv X pins σ H' s ∧ (∃ dx fs, H' a = some (.ins C dx fs)) ∧ H' l = some (.lst xs) ∧ InGo X.K C sp E a l xs (fun H' => Q (.bl false) H') (fun H' => Q (.bl true) H') (xs.drop i) H')
    (fun i s hi => ?_) (fun s hi => ?_) ⟨H, I, ha, hl, by rw [List.drop_zero]; exact hg⟩
  · obtain ⟨items, m, h1, h2, h3⟩ := in_turns hc hs F hb hr hx i s hi
    exact ⟨items, m, h1, h2, fun hlt => wpAny_mono (h3 hlt) (fun r s' q => ⟨fun e => let ⟨H', I', q'⟩ := q.1 e; ⟨.bl false, H', I', rfl, q'⟩, q.2⟩) fun _ _ z => z⟩
  · obtain ⟨H', I', _, _, hg⟩ := hi
    rw [List.drop_length] at hg
    exact ⟨.bl true, H', I', rfl, hg⟩
end
end Ow
namespace Al
open PySem PyProof.Rows L2 Ow
variable [Al.TabList]
section
variable {B : Base} {K : PySem.W.Frag} {σ : AEnv} {M : List MO} {x y : AV} {Φ : AV → List MO → Prop} {C : Addr} {asp : ASp} {E : XK} {Ψ : Exc → List MO → Prop}
theorem ras_nil {W : Hp} {μ : List Addr} : RAs K W μ [] [] := rfl
/-- x == y by the own __eq__: y any data -/
theorem ar_eqO {ns : List Str} {l : List D} {d : D} (mono : Mono asp) (qe : EFits B K Ψ E) (hk : TyK K d) (hn : PySem.W.notFirst K C (tyD d) = true) (h : Sent asp [.d (.ins C ns l), .d d] M Φ Ψ) : AR B K (rOwnE K C (conc K asp) E) (.d (.ins C ns l)) (.d d) M Φ := fun W μ H u w o s hu hw Q q => by
  have hu' := hu
  obtain ⟨a, dx, vs, rfl, h1, _⟩ := hu'
  exact ⟨a, dx, _, tyD d, rfl, s.sub _ _ h1, tyx_of s.sub hk hw, hn, sent_run mono o s (ras_cons hu (ras_cons hw ras_nil)) h (fun z M' W' μ' H' v p f r => q _ _ _ _ _ _ p f r) qe⟩
theorem ar_neO {ns : List Str} {l : List D} {d : D} (mono : Mono asp) (qe : EFits B K Ψ E) (hk : TyK K d) (hn : PySem.W.notFirst K C (tyD d) = true) (h : Sent asp [.d (.ins C ns l), .d d] M (fun z M' => ∃ b, z = .d (.bl b) ∧ Φ (.d (.bl (!b))) M') Ψ) : AR B K (rOwnN K C (conc K asp) E) (.d (.ins C ns l)) (.d d) M Φ := fun W μ H u w o s hu hw Q q => by
  have hu' := hu
  obtain ⟨a, dx, vs, rfl, h1, _⟩ := hu'
  refine ⟨a, dx, _, tyD d, rfl, s.sub _ _ h1, tyx_of s.sub hk hw, hn, sent_run mono o s (ras_cons hu (ras_cons hw ras_nil)) h (fun z M' W' μ' H' v p f r => ?_) qe⟩
  obtain ⟨b, rfl, p⟩ := p
  cases r
  exact ⟨b, rfl, q _ _ _ _ _ _ p f rfl⟩
theorem ac_lenO {ns : List Str} {l : List D} (mono : Mono asp) (qe : EFits B K Ψ E) (h : Sent asp [.d (.ins C ns l)] M (fun z M' => ∃ i : Int, z = .d (.int i) ∧ 0 ≤ i ∧ i < 2 ^ 63 ∧ Φ (.d (.int i)) M') Ψ) : AC B K (rOwnLen C (conc K asp) E) [.d (.ins C ns l)] M Φ := fun W μ H us o s r Q q => by
  obtain ⟨v, rfl, hu⟩ := ra_one r
  have hu' := hu
  obtain ⟨a, dx, vs, rfl, h1, _⟩ := hu'
  refine ⟨a, dx, _, rfl, s.sub _ _ h1, sent_run mono o s (ras_cons hu ras_nil) h (fun z M' W' μ' H' v p f r => ?_) qe⟩
  obtain ⟨i, rfl, h0, h2, p⟩ := p
  cases r
  exact ⟨i, rfl, h0, h2, q _ _ _ _ _ _ p f rfl⟩
theorem ac_reprO {ns : List Str} {l : List D} (mono : Mono asp) (qe : EFits B K Ψ E) (h : Sent asp [.d (.ins C ns l)] M (fun z M' => ∃ y : Str, z = .d (.str y) ∧ Φ (.d (.str y)) M') Ψ) : AC B K (rOwnRepr C (conc K asp) E) [.d (.ins C ns l)] M Φ := fun W μ H us o s r Q q => by
  obtain ⟨v, rfl, hu⟩ := ra_one r
  have hu' := hu
  obtain ⟨a, dx, vs, rfl, h1, _⟩ := hu'
  refine ⟨a, dx, _, rfl, s.sub _ _ h1, sent_run mono o s (ras_cons hu ras_nil) h (fun z M' W' μ' H' v p f r => ?_) qe⟩
  obtain ⟨y, rfl, p⟩ := p
  cases r
  exact ⟨y, rfl, q _ _ _ _ _ _ p f rfl⟩
/-- x in [..]: an item of the class is asked first, of other kinds x is asked; the very same object is in -/
def D.isIns : D → Bool | .ins _ _ _ => true | _ => false
def D.forD : D → Bool | .non => true | .int _ => true | .str _ => true | .lst _ => true | .scr _ => true | .tup _ => true | _ => false
def InD (eqf : D → D → Bool) (x : D) : List D → (Bool → Prop) → Prop
  | [], P => P false
  | d :: r, P => if d.isIns = true then P true ∧ ((eqf d x = true → P true) ∧ (eqf d x = false → InD eqf x r P)) else (eqf x d = true → P true) ∧ (eqf x d = false → InD eqf x r P)
theorem foreign_of {W H : Hp} {d : D} {v : V} (e : Same W H) (h : RD K W d v) (f : d.forD = true) : Foreign K H v := by
  cases d with
  | non => cases h; exact .non
  | bl b => cases f
  | int i => cases h; exact .int _
  | str i => cases h; exact .str _
  | ty n => cases f
  | adr a => cases f
  | tup l => obtain ⟨a, vs, rfl, h1, _⟩ := h; exact .tup (sqt_mono e h1)
  | lst l => obtain ⟨a, vs, rfl, h1, _⟩ := h; exact .lst (SqL.of (e _ _ h1))
  | scr l => obtain ⟨a, vs, rfl, h1, _⟩ := h; exact .lst (e.seq h1)
  | ins C ns l => cases f
  | clo a u => cases f
  | dT ks l => cases f
  | dK ks l => cases f
  | exc a dx C ns l => cases f
theorem in_run {eqf : D → D → Bool} {ns : List Str} {l : List D} {a la : Addr} {xs : List V} {P : Bool → Prop} {Qt Qf : Hp → Prop} {W0 : Hp} {μ0 : List Addr} (mono : Mono asp) (qe : EFits B K Ψ E)
    (qt : ∀ W μ H, P true → Go B K W0 μ0 W μ M H → Qt H) (qf : ∀ W μ H, P false → Go B K W0 μ0 W μ M H → Qf H) (hx : ∃ dx vs, W0 a = some (.ins C dx (ns.zip vs)) ∧ ns.length = l.length ∧ RDs K W0 l vs) (hl : W0 la = some (.lst xs)) :
    ∀ (ds : List D) (vs : List V) (W : Hp) (μ : List Addr) (H : Hp), Go B K W0 μ0 W μ M H → RDs K W ds vs →
      (∀ d ∈ ds, (d.isIns = true ∧ (∃ ns l, d = .ins C ns l) ∧ ∀ Φ' : AV → List MO → Prop, Φ' (.d (.bl (eqf d (.ins C ns l)))) M → Sent asp [.d d, .d (.ins C ns l)] M Φ' Ψ) ∨ (d.isIns = false ∧ d.forD = true ∧ ∀ Φ' : AV → List MO → Prop, Φ' (.d (.bl (eqf (.ins C ns l) d))) M → Sent asp [.d (.ins C ns l), .d d] M Φ' Ψ)) →
      InD eqf (.ins C ns l) ds P → InGo K C (conc K asp) E a la xs Qt Qf vs H
  | [], vs, W, μ, H, g, r, _, h => by
    cases (show vs = [] from r)
    exact qf _ _ _ h g
  | d :: ds, vs, W, μ, H, g, r, hd, h => by
    obtain ⟨v, vs', rfl, rv, rr⟩ := r
    obtain ⟨dx, ws, hxa, hn, hrd⟩ := hx
    have rx : RD K W (.ins C ns l) (.ref a) := ⟨a, dx, ws, rfl, g.wext _ _ hxa, hn, RDs.mono g.wext hrd⟩
    have go : ∀ b, (b = true → P true) → (b = false → InD eqf (.ins C ns l) ds P) → ∀ W' μ' H', Go B K W μ W' μ' M H' →
        (∃ dx fs, H' a = some (.ins C dx fs)) ∧ H' la = some (.lst xs) ∧ (b = true → Qt H') ∧ (b = false → InGo K C (conc K asp) E a la xs Qt Qf vs' H') := by
      intro b h1 h2 W' μ' H' g'
      have gg := g.trans g'
      refine ⟨⟨dx, _, gg.sim.sub _ _ (gg.wext _ _ hxa)⟩, gg.sim.sub _ _ (gg.wext _ _ hl), fun e => qt _ _ _ (h1 e) gg, fun e => ?_⟩
      exact in_run mono qe qt qf ⟨dx, ws, hxa, hn, hrd⟩ hl ds vs' W' μ' H' gg (RDs.mono g'.wext rr) (fun d hm => hd d (List.mem_cons_of_mem _ hm)) (h2 e)
    rcases hd d List.mem_cons_self with ⟨hi, ⟨ns', l', e⟩, hs⟩ | ⟨hi, hf, hs⟩
    · unfold InD at h
      rw [if_pos hi] at h
      obtain ⟨h0, h1, h2⟩ := h
      have rv' := rv
      rw [e] at rv'
      obtain ⟨b, dx', ws', ev, hb, _, _⟩ := rv'
      subst ev
      by_cases hba : b = a
      · subst hba
        exact .inl ⟨rfl, go true (fun _ => h0) (fun z => nomatch z) W μ H (.refl g.ok g.sim)⟩
      · refine .inr (.inl ⟨b, dx', _, rfl, hba, g.sim.sub _ _ hb, ?_⟩)
        exact sent_run mono g.ok g.sim (ras_cons (x := .d d) rv (ras_cons (x := .d (.ins C ns l)) rx ras_nil)) (hs (fun z M' => z = .d (.bl (eqf d (.ins C ns l))) ∧ M' = M) ⟨rfl, rfl⟩)
          (fun z M' W' μ' H' v p f r => by obtain ⟨e1, e2⟩ := p; subst e1; subst e2; cases r; exact ⟨_, rfl, go _ h1 h2 W' μ' H' f⟩) qe
    · unfold InD at h
      rw [if_neg (by rw [hi]; exact Bool.false_ne_true)] at h
      refine .inr (.inr ⟨foreign_of g.sim.sub rv hf, ?_⟩)
      exact sent_run mono g.ok g.sim (ras_cons (x := .d (.ins C ns l)) rx (ras_cons (x := .d d) rv ras_nil)) (hs (fun z M' => z = .d (.bl (eqf (.ins C ns l) d)) ∧ M' = M) ⟨rfl, rfl⟩)
        (fun z M' W' μ' H' v p f r => by obtain ⟨e1, e2⟩ := p; subst e1; subst e2; cases r; exact ⟨_, rfl, go _ h.1 h.2 W' μ' H' f⟩) qe
theorem ar_inO {eqf : D → D → Bool} {ns : List Str} {l : List D} {ds : List D} {neg : Bool} (mono : Mono asp) (qe : EFits B K Ψ E)
    (hd : ∀ d ∈ ds, (d.isIns = true ∧ (∃ ns l, d = .ins C ns l) ∧ ∀ Φ' : AV → List MO → Prop, Φ' (.d (.bl (eqf d (.ins C ns l)))) M → Sent asp [.d d, .d (.ins C ns l)] M Φ' Ψ) ∨ (d.isIns = false ∧ d.forD = true ∧ ∀ Φ' : AV → List MO → Prop, Φ' (.d (.bl (eqf (.ins C ns l) d))) M → Sent asp [.d (.ins C ns l), .d d] M Φ' Ψ))
    (h : InD eqf (.ins C ns l) ds (fun b => Φ (.d (.bl (if neg = true then !b else b))) M)) : AR B K (rInO K C (conc K asp) E neg) (.d (.ins C ns l)) (.d (.lst ds)) M Φ := fun W μ H u w o s hu hw Q q => by
  obtain ⟨a, dx, vs, rfl, h1, h2, h3⟩ := hu
  obtain ⟨la, xs, rfl, h4, h5⟩ := hw
  refine ⟨a, la, xs, rfl, rfl, ⟨dx, _, s.sub _ _ h1⟩, s.sub _ _ h4, in_run (B := B) (P := fun b => Φ (.d (.bl (if neg = true then !b else b))) M) mono qe (fun W' μ' H' p g => ?_) (fun W' μ' H' p g => ?_) ⟨dx, vs, h1, h2, h3⟩ h4 ds xs W μ H (.refl o s) h5 hd h⟩
  · cases neg <;> exact q _ _ _ _ _ _ p g rfl
  · cases neg <;> exact q _ _ _ _ _ _ p g rfl
end
end Al

namespace Al
open PySem PyProof.Rows L2
variable [Al.TabList]
section
variable {B : Base} {K : PySem.W.Frag} {σ : AEnv} {M : List MO} {x y : AV} {Φ : AV → List MO → Prop} {C : Addr} {asp : ASp} {E : XK} {Ψ : Exc → List MO → Prop}
theorem map_ren {n : Nat} {ks : List Nat} (ys : List D) : (ys.map AV.d).map (renV n ks) = ys.map AV.d := by
  rw [List.map_map]; rfl
theorem all_isD (ys : List D) : (ys.map AV.d).all AV.isD = true := by
  rw [List.all_map]; exact List.all_eq_true.mpr fun _ _ => rfl
theorem all_below (ys : List D) (n : Nat) : (ys.map AV.d).all (AV.below n) = true := by
  rw [List.all_map]; exact List.all_eq_true.mpr fun _ _ => rfl
/-- a call with data alone -/
theorem sent0 {ys : List D} (mono : Mono asp) (h : asp (ys.map AV.d) [] (fun x M' => M' = [] ∧ ∃ d, x = .d d ∧ Φ (.d d) M) (fun x M' => M' = [] ∧ Ψ x M)) : Sent asp (ys.map AV.d) M Φ Ψ := by
  refine ⟨[], ys.map AV.d, .nil, rfl, rfl, (map_ren ys).symm, all_below ys _, mono _ _ _ _ _ _ (fun x M' ⟨e, d, ex, p⟩ => ?_) (fun x M' ⟨e, p⟩ => ?_) h⟩
  · subst e; subst ex
    exact ⟨[], [], rfl, rfl, by show Φ (.d d) (putK M [] [] ++ []); rw [List.append_nil]; unfold putK; exact p⟩
  · subst e
    exact ⟨[], [], rfl, rfl, by show Ψ x (putK M [] [] ++ []); rw [List.append_nil]; unfold putK; exact p⟩
/-- a call with one mutable list, the k-th, which the callee may change -/
theorem sent1 {k : Nat} {l : List D} {xs xs' : List AV} (mono : Mono asp) (hk : M[k]? = some (.lst l)) (hx : xs = xs'.map (renV M.length [k])) (hb : xs'.all (AV.below 1) = true)
    (h : asp xs' [.lst l] (fun x M' => ∃ l' d, M' = [.lst l'] ∧ x = .d d ∧ Φ (.d d) (M.set k (.lst l'))) (fun x M' => ∃ l', M' = [.lst l'] ∧ Ψ x (M.set k (.lst l')))) : Sent asp xs M Φ Ψ := by
  have hl := (List.getElem?_eq_some_iff.mp hk).1
  have hg : M.getD k (.lst []) = .lst l := by rw [List.getD, hk]; rfl
  have e : subK M [k] = [.lst l] := by show [M.getD k (.lst [])] = _; rw [hg]
  refine ⟨[k], xs', by simp, by simpa using hl, by show ((M.getD k (.lst [])).isD && true) = true; rw [hg]; rfl, hx, hb, ?_⟩
  rw [e]
  refine mono _ _ _ _ _ _ (fun x M' z => ?_) (fun x M' z => ?_) h
  · obtain ⟨l', d, e, ex, p⟩ := z
    subst e; subst ex
    exact ⟨[.lst l'], [], rfl, rfl, by show Φ (.d d) (putK M [k] [.lst l'] ++ []); rw [List.append_nil]; unfold putK; unfold putK; exact p⟩
  · obtain ⟨l', e, p⟩ := z
    subst e
    exact ⟨[.lst l'], [], rfl, rfl, by show Ψ x (putK M [k] [.lst l'] ++ []); rw [List.append_nil]; unfold putK; unfold putK; exact p⟩
/-- a call with data alone that hands back a new mutable list -/
theorem sentN {ys : List D} (mono : Mono asp) (h : asp (ys.map AV.d) [] (fun x M' => ∃ l, M' = [.lst l] ∧ x = .m 0 ∧ Φ (.m M.length) (M ++ [.lst l])) (fun x M' => M' = [] ∧ Ψ x M)) : Sent asp (ys.map AV.d) M Φ Ψ := by
  refine ⟨[], ys.map AV.d, .nil, rfl, rfl, (map_ren ys).symm, all_below ys _, mono _ _ _ _ _ _ (fun x M' ⟨l, e, ex, p⟩ => ?_) (fun x M' ⟨e, p⟩ => ?_) h⟩
  · subst e; subst ex
    exact ⟨[], [.lst l], rfl, rfl, by show Φ (.m (M.length + 0)) (putK M [] [] ++ [.lst l]); unfold putK; exact p⟩
  · subst e
    exact ⟨[], [], rfl, rfl, by show Ψ x (putK M [] [] ++ []); rw [List.append_nil]; unfold putK; exact p⟩
/-- a new instance made of data -/
theorem sentI {ys : List D} (mono : Mono asp) (hM : ∀ o ∈ M, o.below M.length = true)
    (h : asp (.m 0 :: ys.map AV.d) [.ins C [] []] (fun x M' => x = .d .non ∧ ∃ ns l, M' = [.ins C ns (l.map AV.d)] ∧ Φ (.d (.ins C ns l)) M) (fun x M' => ∃ o, M' = [o] ∧ Ψ x (M ++ [renO (M.length + 1) [M.length] o]))) :
    Sent asp (.m M.length :: ys.map AV.d) (M ++ [.ins C [] []]) (MadeOk C M.length Φ) Ψ := by
  have hp : ∀ o : MO, putK (M ++ [.ins C [] []]) [M.length] [o] = M ++ [o] := fun o => by
    unfold putK; unfold putK
    rw [List.set_append_right _ _ (Nat.le_refl _), Nat.sub_self]; rfl
  have hg : (M ++ [MO.ins C [] []]).getD M.length (.lst []) = .ins C [] [] := by
    rw [List.getD, List.getElem?_append_right (Nat.le_refl _), Nat.sub_self]; rfl
  have e : subK (M ++ [MO.ins C [] []]) [M.length] = [.ins C [] []] := by show [(M ++ [MO.ins C [] []]).getD M.length (.lst [])] = _; rw [hg]
  refine ⟨[M.length], .m 0 :: ys.map AV.d, by simp, by simp, by show ((((M ++ [MO.ins C [] []]).getD M.length (.lst [])).isD) && true) = true; rw [hg]; rfl, by rw [List.map_cons, map_ren]; rfl, by rw [List.all_cons, all_below]; rfl, ?_⟩
  rw [e]
  refine mono _ _ _ _ _ _ (fun x M' z => ?_) (fun x M' z => ?_) h
  · obtain ⟨ex, ns, l, e, p⟩ := z
    subst e; subst ex
    refine ⟨[.ins C ns (l.map AV.d)], [], rfl, rfl, rfl, ns, l, M, ?_, rfl, hM, p⟩
    show putK (M ++ [.ins C [] []]) [M.length] [renO _ _ (.ins C ns (l.map AV.d))] ++ [] = _
    rw [List.append_nil, hp]
    show M ++ [MO.ins C ns ((l.map AV.d).map (renV _ _))] = _
    rw [map_ren]
  · obtain ⟨o, e, p⟩ := z
    subst e
    refine ⟨[o], [], rfl, rfl, ?_⟩
    show Ψ x (putK (M ++ [.ins C [] []]) [M.length] [renO _ _ o] ++ [])
    rw [List.append_nil, hp, List.length_append]
    exact p
theorem ae_call0 {ta : TA} (mono : Mono asp) (qe : EFits B K Ψ E) (h : AA B K ta σ M fun xs M1 => Sent asp xs M1 Φ Ψ) : AE B K (tCall (conc K asp) [] E ta) σ M Φ :=
  ae_call (das := []) mono qe (fun _ _ => rfl) fun W μ H τ o s e Q q => h W μ H τ o s e Q fun x M' W' μ' H' v p => q x M' W' μ' H' v (by dsimp only; rw [List.append_nil]; exact p)
theorem ae_meth0 {m : Str} {t : TA} {ta : TE} (mono : Mono asp) (qe : EFits B K Ψ E)
    (h : AE B K ta σ M fun x M1 => ∃ ns l, x = .d (.ins C ns l) ∧ m ∉ ns ∧ AA B K t σ M1 fun xs M2 => Sent asp (x :: xs) M2 Φ Ψ) : AE B K (tMeth C m (conc K asp) [] E ta t) σ M Φ :=
  ae_meth (das := []) mono qe (fun _ _ => rfl) (h.imp fun x M' ⟨ns, l, e, hm, p⟩ => ⟨ns, l, e, hm, fun W μ H τ o s e Q q => p W μ H τ o s e Q fun x M' W' μ' H' v p => q x M' W' μ' H' v (by dsimp only; rw [List.append_nil]; exact p)⟩)
theorem au_i {g : Int → Int} {i : Int} (k : Φ (.d (.int (g i))) M) : AU B K (rU fun i => .int (g i)) (.d (.int i)) M Φ := fun W μ H u o s r Q q => by
  cases r
  exact ⟨i, rfl, q _ _ _ _ _ _ k (.refl o s) rfl⟩
/-- C(.., k = v): the parameters' values zs by what is written -/
theorem ae_makeL {n m : Nat} {gV : List V → List V → List V} {t tk : TA} (mono : Mono asp) (qe : EFits B K Ψ E)
    (h : AA B K t σ M fun xs M1 => AA B K tk σ M1 fun ys M2 => xs.length = n ∧ ys.length = m ∧ ∃ zs : List AV, (∀ W μ v vs ws, RA K W μ (.m M2.length) v → RAs K W μ xs vs → RAs K W μ ys ws → RAs K W μ zs (gV (v :: vs) ws)) ∧ Sent asp zs (M2 ++ [.ins C [] []]) (MadeOk C M2.length Φ) Ψ) : AE B K (tMakeK C n m (conc K asp) gV E t tk) σ M Φ := fun W μ H τ o s e Q q =>
  h W μ H τ o s e _ fun xs M1 W1 μ1 H1 vs p f1 r1 => p W1 μ1 H1 τ f1.ok f1.sim (f1.re e) _ fun ys M2 W2 μ2 H2 ws ⟨l1, l2, zs, hz, p2⟩ f2 r2 => ⟨by rw [← r1.length]; exact l1, by rw [← r2.length]; exact l2, fun x dx hx hdx ne => by
    obtain ⟨Wm, gm⟩ := go_made (C := C) f2.ok f2.sim hx hdx ne
    have rx : RA K Wm (μ2 ++ [x]) (.m M2.length) (.ref x) := ⟨x, by rw [← f2.sim.len, List.getElem?_append_right (Nat.le_refl _), Nat.sub_self]; rfl, rfl⟩
    refine sent_run mono gm.ok gm.sim (hz _ _ _ _ _ rx (gm.ras (f2.ras r1)) (gm.ras r2)) p2 (fun z M' W' μ' H' v p3 g r => ?_) qe
    exact made_run (f1.trans f2) f2.sim.len q z M' W' μ' H' v Wm _ gm p3 g r⟩
/-- a word between a statement and what follows -/
theorem as_cut {t u : TS} {Φ : AEnds} (Mid : AEnv → List MO → Prop) (h1 : AS B K t σ M { Φ with nx := Mid }) (h2 : ∀ σ' M', Mid σ' M' → AS B K u σ' M' Φ) : AS B K (tSeq t u) σ M Φ :=
  as_seq (h1.imp h2 (fun _ _ h => h) (fun _ _ h => h) (fun _ _ h => h))
theorem ag_lstM {Φ : AEnv → List MO → Prop} {n k : Nat} {gs : TGs} {ds : List D} (hk : M[k]? = some (.lst ds)) (hn : ds.length = n) (h : AGs B K gs (ds.map AV.d) σ M Φ) : AG B K (gLst K n gs) (.m k) σ M Φ := fun W μ H τ v o s e r Q q => by
  obtain ⟨a, h1, rfl⟩ := r
  obtain ⟨vs, h2, h3⟩ := s.ob k a _ h1 hk
  exact ⟨a, vs, rfl, SqL.of h2, by rw [← h3.length]; exact hn, h W μ H τ vs o s e (ras_ds h3) Q q⟩
end
section
variable {P : Program} {w : World} {K : PySem.W.Frag} {mg : Str → Option Value} {base : Heap}
/-- a def with defaults -/
theorem fn_alD {x qual : Str} {params : Arguments} {body : List Stmt} {scope : Scope} {dvs : List V} {kws : List (Str × V)} {f : Addr} {fd : FuncData} {N ps : List Str} {k : Nat} {asp : ASp} {CX : CXT} (F : FunD K x qual params body scope dvs kws f fd) (S : FnScope N ps scope) (len : ∀ xs M Φ Ψ, asp xs M Φ Ψ → xs.length = ps.length)
    (hbody : ∀ (cdv : Value) (A : Around) (outer : List Env) (s : Shared) (H : Hp) (E : XK), Room k (A.deeper (envOfC qual scope s.heap.objs.size f cdv)) →
      ∃ t, PSs (cxOf CX P w K mg base N qual scope f cdv A outer s H E) body t ∧ ∀ (B : Base) xs M Φ Ψ, B.μ0.length = M.length → asp xs M Φ Ψ → EFits B K (XT M.length Ψ) E → AS B K t (startA N xs) M (defEnds M.length Φ)) : FnOk P w K mg base CX (k + 1) f fd ps (conc K asp) := by
  refine F.ok S (fun vs H Q E h => ?_) (fun cdv A outer s H vs Q E hr h => ?_)
  · obtain ⟨W, μ, M, xs, _, r, ha⟩ := h
    rw [← r.length]; exact len _ _ _ _ ha
  · obtain ⟨t, h1, h2⟩ := hbody cdv A outer s H E hr
    exact ⟨t, h1, conc_body (B0 := Unit) h h2⟩
end
end Al

/-! own exceptions over any built-in one, with an own __init__ that stores fields -/
namespace Gx
open PySem PySem.W PySem.Calls PyProof.Rows PySem.HandSPX L2
/-- what is asked of the built-in base -/
structure BaseX (B newId initId : String) (bmB : List Value) : Prop where
  ex : ExcBaseFacts B newId initId bmB
  sf : StoreFacts B bmB "object.__setattr__" "object"
/-- an own exception class -/
structure GexC (K : PySem.W.Frag) (C : Addr) : Prop where
  cls : ∃ B newId initId bmB, BaseX B newId initId bmB ∧ excInitIn K C bmB newId = true ∧ excOver K C bmB = true
  hd : hasDictIn K C = true
  sa : findIn K (.ref C) "__setattr__" = some (some (.builtin "object.__setattr__"))
  exC : subIn K (.ref C) (.type "BaseException") = some true
  tyC : typeIn K (.ref C) = some (.type "type")
  kC : keepIn K (.ref C) = true
theorem taker_no {K : Frag} {C : Addr} {f : Str} (h : findIn K (.ref C) f = some none) : takerIn K C f = some none := by
  unfold takerIn
  rw [h]
  rfl
section
open Builtin Builtin.ObjectAttr
variable {prog : Program} {w : World} {A : Around} {R : Result → Shared → Prop} {hp : Heap} {g : Array GenState} {d : Drawn} {t : Nat} {os : OsState}
/-- the first store -/
theorem put_first {K : Frag} {f : Str} {tk : Tok} {v : Value} {x C : Addr} {fv : Array Value} (T : GexC K C) (X : K.In hp) (hx : hp.get? x = some { cls := .ref C, data := .fields fv }) (hf : findIn K (.ref C) f = some none)
    (q : ∀ h' tk' dx, (∀ b o, b ≠ x → hp.get? b = some o → h'.get? b = some o) → hp.objs.size ≤ dx → dx ≠ x → h'.get? x = some { cls := .ref C, dict := some dx, data := .fields fv } →
      h'.Ns1 dx (fun y => if y = f then some v else none) → R (.ok (.ret .none)) ⟨h', g, d, tk', os⟩) :
    codeAny (model prog w) A (.call (.builtin "object.__setattr__") ⟨[.ref x, .str f tk, v], []⟩) R ⟨hp, g, d, t, os⟩ := by
  obtain ⟨B, newId, initId, bmB, FB, h1, h2⟩ := T.cls
  have ne : x ≠ hp.objs.size := Nat.ne_of_lt (Heap.lt_size hx)
  obtain ⟨cd, hcd, hh⟩ := any_some T.hd
  have Lc : Looks (model prog w) hp (classData C) cd := looks_clsIn X hcd
  refine osa_openX (s := ⟨hp, g, d, t, os⟩) (r := none) FB.sf X (od := none) ⟨hx, rfl, rfl, trivial⟩ h2 (taker_no hf) fun b => ?_
  obtain ⟨nm, bs, mro, ns, qn, hd, sn, sb, ab, col, del⟩ := cd
  dsimp only at hh
  subst hh
  show wpAny _ _ (storeInOwnDict (.ref x) (.ref C) (.str f tk) f v b) _ _ _
  unfold storeInOwnDict ownDictForStores
  repeat (first | with_reducible refine store_in_new ?_ ?_ | with_reducible refine wpAny_loadPart_at hx ?_ | with_reducible refine Lc.at ?_ | wp_step)
  · exact ⟨_, #[], _, (Heap.get?_update_ne _ _ _ _ ne.symm).trans (Heap.get?_push_at rfl rfl), rfl, fun e he => absurd he (by simp), fun _ => rfl⟩
  · intro h' tk' hn hs
    have hx1 : (hp.push { cls := .type "dict", data := .dict #[] }).get? x = some { cls := .ref C, data := .fields fv } := Heap.get?_push_of_some _ hx
    refine q h' tk' hp.objs.size (fun b o hb ho => ?_) (Nat.le_refl _) ne.symm ((hs.2 x ne).trans (Heap.get?_update_self _ hx1 rfl)) hn
    exact (hs.2 b (Nat.ne_of_lt (Heap.lt_size ho))).trans ((Heap.get?_update_ne _ _ _ _ hb).trans (Heap.get?_push_of_some _ ho))
/-- a later one -/
theorem put_more {K : Frag} {f : Str} {tk : Tok} {v : Value} {x C dx : Addr} {fv : Array Value} {m0 : Str → Option Value} {nl : List Str} (T : GexC K C) (X : K.In hp) (hx : hp.get? x = some { cls := .ref C, dict := some dx, data := .fields fv })
    (hns : hp.Ns1 dx m0) (hw : Within m0 nl) (hz : nl.length ≤ 1000) (hf : findIn K (.ref C) f = some none)
    (q : ∀ h' tk', (∀ b o, b ≠ dx → hp.get? b = some o → h'.get? b = some o) → h'.Ns1 dx (fun y => if y = f then some v else m0 y) → R (.ok (.ret .none)) ⟨h', g, d, tk', os⟩) :
    codeAny (model prog w) A (.call (.builtin "object.__setattr__") ⟨[.ref x, .str f tk, v], []⟩) R ⟨hp, g, d, t, os⟩ := by
  obtain ⟨B, newId, initId, bmB, FB, h1, h2⟩ := T.cls
  obtain ⟨cd, hcd, hh⟩ := any_some T.hd
  have Lc : Looks (model prog w) hp (classData C) cd := looks_clsIn X hcd
  obtain ⟨oD, _, _, hoD, _, _⟩ := hns.count hw
  refine osa_openX (s := ⟨hp, g, d, t, os⟩) (r := none) FB.sf X (od := some oD) ⟨hx, rfl, rfl, hoD⟩ h2 (taker_no hf) fun b => ?_
  obtain ⟨nm, bs, mro, ns, qn, hd, sn, sb, ab, col, del⟩ := cd
  dsimp only at hh
  subst hh
  show wpAny _ _ (storeInOwnDict (.ref x) (.ref C) (.str f tk) f v b) _ _ _
  unfold storeInOwnDict ownDictForStores
  repeat (first | with_reducible refine PySem.OEX.store_in_old hns hw hz ?_ | with_reducible refine wpAny_loadPart_at hx ?_ | with_reducible refine Lc.at ?_ | wp_step)
  intro h' tk' hn hs
  exact q h' tk' (fun b o hb ho => (hs.2 b hb).trans ho) hn
end
end Gx

namespace Gx
open PySem PySem.W PySem.Calls PyProof.Rows PySem.HandSPX L2
/-- the text of an __init__(self, fs..) -/
structure IniT (st : Stmt) (qual : Str) (fs : List Str) : Prop where
  kd : (defScope st).kind = .function
  kc : (defScope st).isCoroutine = false
  kg : (defScope st).isGenerator = false
  db : ∀ x, x ∈ ("self" : Str) :: fs → (x == ("__debug__" : Str)) = false
  lk : ∀ (L a : Addr) (cd : Value) (x : Str), x ∈ ("self" : Str) :: fs → (envOfC qual (defScope st) L a cd).kindOf x = some .local
  al : ∀ us : List Value, us.length = fs.length + 1 → (((("self" : Str) :: fs).zip us).all fun y => (defScope st).names.lookup y.1 == some .local || (defScope st).names.lookup y.1 == some .cell) = true
  bl : ∀ (L a : Addr) (cd : Value) (us : List Value), us.length = fs.length + 1 → ∀ (i : Nat) (x : Str) (u : Value), (("self" : Str) :: fs)[i]? = some x → us[i]? = some u →
    bindL (envOfC qual (defScope st) L a cd).kindOf ((("self" : Str) :: fs).zip us) (fun _ => none) x = some u
theorem see {M : Model} {s : Shared} {name : Str} {scope : Scope} {L a : Addr} {cd : Value} {m : Str → Option Value} {x : Str} {pos : Pos} {v : Value} {Q : Value → Shared → Prop} {A : Around} {E : Value → Shared → Prop} (hn : s.heap.Ns L m) (hv : m x = some v)
    (hk : scope.kind = .function) (hl : (envOfC name scope L a cd).kindOf x = some .local) (hd : (x == ("__debug__" : Str)) = false) (h : Q v s) :
    wpAny M A (eval (.Name x pos) (envOfC name scope L a cd)) Q E s := wpAny_Name (wpAny_loadName_local hk hl hn hv h) hd
/-- behind it -/
structure Inited (h h' : Heap) (x C dx t1 : Addr) (fs : List Str) (us : List Value) : Prop where
  keep : ∀ b o, b ≠ x → h.get? b = some o → h'.get? b = some o
  obj : h'.get? x = some { cls := .ref C, dict := some dx, data := .fields #[.ref t1, .none, .none, .none, .bool false, .none] }
  dbig : h.objs.size ≤ dx
  dne : dx ≠ x
  ns : h'.Ns1 dx (fun y => (fs.zip us).lookup y)
def Inits (prog : Program) (w : World) (K : Frag) (C fI : Addr) (fs : List Str) : Prop := ∀ {A : Around} {R : Result → Shared → Prop} {s : Shared} {x t0 : Addr} {us : List Value}, K.In s.heap → s.heap.NoLimit → s.heap.get? x = some (excO C t0) → K.lookup x = none → A.depth < recursionLimit → us.length = fs.length →
  (∀ h' tk dx, Inited s.heap h' x C dx t0 fs us → R (.ok (.ret .none)) { s with heap := h', toks := tk }) → codeAny (model prog w) A (.call (.ref fI) ⟨.ref x :: us, []⟩) R s
theorem keeps_but {K : Frag} {h h' : Heap} {x : Addr} (X : K.In h) (hx : K.lookup x = none) (k : ∀ b o, b ≠ x → h.get? b = some o → h'.get? b = some o) : K.In h' := fun a o e =>
  k a o (fun z => by rw [z, hx] at e; cases e) (X a o e)
section
variable {prog : Program} {w : World} {K : Frag} {C fI : Addr} {st : Stmt} {qual : Str} {fd : FuncData}
theorem init1 {f : Str} {q1 q2 q3 q4 : Pos} (F : Fun K "__init__" qual st fI fd) (Z : IniT st qual [f]) (hb : defBody st = [.Assign [.Attribute (.Name "self" q1) f q2] (.Name f q3) q4])
    (hB : ∀ (s : Shared) (us : List Value), us.length = 2 → BindsTo s fd ⟨us, []⟩ ([("self" : Str), f].zip us)) (T : GexC K C) (n1 : findIn K (.ref C) f = some none) : Inits prog w K C fI [f] := by
  intro A R s x t0 us X hlim hx hnx hroom hl hq
  obtain ⟨v, rfl⟩ : ∃ v, us = [v] := match us, hl with | [v], _ => ⟨v, rfl⟩
  obtain ⟨oc, od, kV, doc, pm, an, cdv, ct, osl, efd, ho, hcd⟩ := F.ex
  subst efd
  refine Att.call_fn (binds := [("self", .ref x), (f, v)]) X hlim ho hcd hroom (hB s [.ref x, v] rfl) (Z.al [.ref x, v] rfl) (fun s1 IC => ?_) Z.kc Z.kg Z.kd
  obtain ⟨h1, tk1, rfl⟩ := IC.toInCall.same
  have k : ∀ b o, s.heap.get? b = some o → h1.get? b = some o := IC.toInCall.keep
  have hn := IC.toInCall.ns
  have a1 := Z.bl s.heap.objs.size fI cdv [.ref x, v] rfl
  have hx1 := k _ _ hx
  show wpAny _ _ (execs (defBody st) _) _ _ _
  rw [hb]
  refine wpAny_execs_cons (plainObj_wpAny_Assign_Attribute ?_)
  refine see hn (a1 1 f v rfl rfl) Z.kd (Z.lk _ _ _ _ (by simp)) (Z.db _ (by simp)) (see hn (a1 0 "self" (.ref x) rfl rfl) Z.kd (Z.lk _ _ _ _ (by simp)) (Z.db _ (by simp)) ?_)
  refine set_plain (X.keeps k) (ox := excO C t0) (od := none) ⟨hx1, rfl, rfl, trivial⟩ T.sa ?_
  refine put_first T (X.keeps k) hx1 n1 fun h3 tk3 dx k3 dn dne hx3 hn3 => ?_
  show wpAny _ _ (execs _ _) _ _ _
  refine wpAny_execs_nil (hq h3 tk3 dx ⟨fun b o hb e => k3 b o hb (k b o e), hx3, Nat.le_of_lt (Nat.lt_of_lt_of_le hn.lt dn), dne, ?_⟩)
  rw [show (fun y => ([f].zip [v]).lookup y) = fun y => if y = f then some v else none from funext fun y => by
    show List.lookup y [(f, v)] = _
    by_cases e : y = f
    · subst e; simp [List.lookup]
    · rw [if_neg e]; simp [List.lookup, show (y == f) = false from by simpa using e]]
  exact hn3
theorem init2 {f g : Str} {q1 q2 q3 q4 q5 q6 q7 q8 : Pos} (F : Fun K "__init__" qual st fI fd) (Z : IniT st qual [f, g])
    (hb : defBody st = [.Assign [.Attribute (.Name "self" q1) f q2] (.Name f q3) q4, .Assign [.Attribute (.Name "self" q5) g q6] (.Name g q7) q8]) (hfg : f ≠ g)
    (hB : ∀ (s : Shared) (us : List Value), us.length = 3 → BindsTo s fd ⟨us, []⟩ ([("self" : Str), f, g].zip us)) (T : GexC K C) (n1 : findIn K (.ref C) f = some none) (n2 : findIn K (.ref C) g = some none) : Inits prog w K C fI [f, g] := by
  intro A R s x t0 us X hlim hx hnx hroom hl hq
  obtain ⟨v, u, rfl⟩ : ∃ v u, us = [v, u] := match us, hl with | [v, u], _ => ⟨v, u, rfl⟩
  obtain ⟨oc, od, kV, doc, pm, an, cdv, ct, osl, efd, ho, hcd⟩ := F.ex
  subst efd
  refine Att.call_fn (binds := [("self", .ref x), (f, v), (g, u)]) X hlim ho hcd hroom (hB s [.ref x, v, u] rfl) (Z.al [.ref x, v, u] rfl) (fun s1 IC => ?_) Z.kc Z.kg Z.kd
  obtain ⟨h1, tk1, rfl⟩ := IC.toInCall.same
  have k : ∀ b o, s.heap.get? b = some o → h1.get? b = some o := IC.toInCall.keep
  have hn := IC.toInCall.ns
  have a1 := Z.bl s.heap.objs.size fI cdv [.ref x, v, u] rfl
  have hx1 := k _ _ hx
  have X1 := X.keeps k
  have hxL : s.heap.objs.size ≠ x := Nat.ne_of_gt (Heap.lt_size hx)
  show wpAny _ _ (execs (defBody st) _) _ _ _
  rw [hb]
  refine wpAny_execs_cons (plainObj_wpAny_Assign_Attribute ?_)
  refine see hn (a1 1 f v rfl rfl) Z.kd (Z.lk _ _ _ _ (by simp)) (Z.db _ (by simp)) (see hn (a1 0 "self" (.ref x) rfl rfl) Z.kd (Z.lk _ _ _ _ (by simp)) (Z.db _ (by simp)) ?_)
  refine set_plain X1 (ox := excO C t0) (od := none) ⟨hx1, rfl, rfl, trivial⟩ T.sa ?_
  refine put_first T X1 hx1 n1 fun h3 tk3 dx k3 dn dne hx3 hn3 => ?_
  have X3 : K.In h3 := keeps_but X1 hnx k3
  have hL : h3.Ns s.heap.objs.size _ := hn.at fun o e => k3 _ o hxL e
  show wpAny _ _ (execs _ _) _ _ _
  refine wpAny_execs_cons (plainObj_wpAny_Assign_Attribute ?_)
  refine see (s := ⟨h3, s.gens, s.drawn, tk3, s.os⟩) hL (a1 2 g u rfl rfl) Z.kd (Z.lk _ _ _ _ (by simp)) (Z.db _ (by simp)) (see (s := ⟨h3, s.gens, s.drawn, tk3, s.os⟩) hL (a1 0 "self" (.ref x) rfl rfl) Z.kd (Z.lk _ _ _ _ (by simp)) (Z.db _ (by simp)) ?_)
  have hw : Within (fun y => if y = f then some v else none) [f] := fun y hy => by
    by_cases e : y = f
    · rw [e]; exact List.mem_cons_self
    · simp [if_neg e] at hy
  obtain ⟨oD, _, _, hoD, _, _⟩ := hn3.count hw
  refine set_plain X3 (ox := { cls := .ref C, dict := some dx, data := .fields #[.ref t0, .none, .none, .none, .bool false, .none] }) (od := some oD) ⟨hx3, rfl, rfl, hoD⟩ T.sa ?_
  refine put_more T X3 hx3 hn3 hw (Nat.le_of_ble_eq_true rfl) n2 fun h4 tk4 k4 hn4 => ?_
  show wpAny _ _ (execs _ _) _ _ _
  refine wpAny_execs_nil (hq h4 tk4 dx ⟨fun b o hb e => k4 b o (fun z => ?_) (k3 b o hb (k b o e)), k4 _ _ (Ne.symm dne) hx3, Nat.le_of_lt (Nat.lt_of_lt_of_le hn.lt dn), dne, ?_⟩)
  · have z1 := Heap.lt_size (k b o e)
    rw [z] at z1
    exact absurd z1 (Nat.not_lt.mpr dn)
  rw [show (fun y => ([f, g].zip [v, u]).lookup y) = fun y => if y = g then some u else if y = f then some v else none from funext fun y => by
    show List.lookup y [(f, v), (g, u)] = _
    by_cases e : y = f
    · subst e; simp [List.lookup, hfg]
    · rw [if_neg e]
      by_cases e2 : y = g
      · subst e2; simp [List.lookup, show (y == f) = false from by simpa using e]
      · rw [if_neg e2]; simp [List.lookup, show (y == f) = false from by simpa using e, show (y == g) = false from by simpa using e2]]
  exact hn4
/-- a made one -/
structure Made (h h' : Heap) (e C d : Addr) (fs : List Str) (us : List Value) : Prop where
  keep : ∀ b o, h.get? b = some o → h'.get? b = some o
  new : h.objs.size ≤ e
  obj : ∃ oe vs, h'.get? e = some oe ∧ oe.cls = .ref C ∧ oe.dict = some d ∧ oe.data = .fields vs ∧ vs[1]? = some .none
  dbig : h.objs.size ≤ d
  dne : d ≠ e
  ns : h'.Ns1 d (fun y => (fs.zip us).lookup y)
theorem made {fs : List Str} (T : GexC K C) (iC : findIn K (.ref C) "__init__" = some (some (.ref fI))) (tI : typeIn K (.ref fI) = some (.type "function")) (hI : Inits prog w K C fI fs) {A : Around} {R : Result → Shared → Prop} {s : Shared} {us : List Value}
    (X : K.In s.heap) (hlim : s.heap.NoLimit) (hroom : A.depth + 1 < recursionLimit) (hl : us.length = fs.length) (hz : us.length ≤ sizeLine) (hq : ∀ h' tk e d, Made s.heap h' e C d fs us → R (.ok (.ret (.ref e))) { s with heap := h', toks := tk }) :
    codeAny (model prog w) A (.call (.ref C) ⟨us, []⟩) R s := by
  obtain ⟨B, newId, initId, bmB, FB, h1, h2⟩ := T.cls
  obtain ⟨nm, N, qn, bs, bm, hdct, sn, sub, ab, col, dd, k0, k1, k2, k3, k5, hC, hT⟩ := excInit_of X h1
  obtain ⟨hp, g, dr, tk, os⟩ := s
  have k : ∀ b o, hp.get? b = some o → ((hp.push (kdv_tup us)).push (excO C hp.objs.size)).get? b = some o := fun b o e => Heap.get?_push_of_some _ (Heap.get?_push_of_some _ e)
  have hget : ((hp.push (kdv_tup us)).push (excO C hp.objs.size)).get? (hp.objs.size + 1) = some (excO C hp.objs.size) := by heap_get
  have hnx : K.lookup (hp.objs.size + 1) = none := by
    cases e : K.lookup (hp.objs.size + 1) with
    | none => rfl
    | some o =>
      have z : hp.get? (hp.objs.size + 1) = some o := X _ _ e
      exact absurd (Nat.lt_of_succ_lt (Heap.lt_size z)) (Nat.lt_irrefl _)
  refine call_own FB.ex hT hC (looks_findIn X iC) (fun self => bind_fn X self tI) hz ?_
  refine hI (s := ⟨(hp.push (kdv_tup us)).push (excO C hp.objs.size), g, dr, tk, os⟩) (X.keeps k) (hlim.keeps k) hget hnx ?_ hl fun h' tk' dx ⟨k', hx, dn, dne, hns⟩ => ?_
  · show A.depth + 1 < recursionLimit
    exact hroom
  · have old : ∀ b o, hp.get? b = some o → h'.get? b = some o := fun b o e => k' b o (Nat.ne_of_lt (Nat.lt_succ_of_lt (Heap.lt_size e))) (k b o e)
    have z : hp.objs.size + 1 + 1 ≤ dx := by
      first
        | exact dn
        | (have q := dn; rw [Heap.size_push, Heap.size_push] at q; exact q)
        | (simpa only [Heap.size_push] using dn)
    exact ⟨rfl, hq h' tk' (hp.objs.size + 1) dx ⟨old, Nat.le_succ _, ⟨_, _, hx, rfl, rfl, rfl, rfl⟩, Nat.le_trans (Nat.le_trans (Nat.le_succ _) (Nat.le_succ _)) z, dne, hns⟩⟩
end
theorem relO_zip {fs : List Str} : ∀ {vs : List V} {us : List Value}, Vals vs us → ∀ g, RelO ((fs.zip vs).lookup g) ((fs.zip us).lookup g) := by
  induction fs with
  | nil => intro vs us _ g; exact True.intro
  | cons f fs ih =>
    intro vs us r g
    cases r with
    | nil => exact True.intro
    | cons r0 rs =>
      rw [List.zip_cons_cons, List.zip_cons_cons, List.lookup_cons, List.lookup_cons]
      cases (g == f) with
      | true => exact r0
      | false => exact ih rs g
section
variable {X : Cx} {C fI : Addr}
/-- C(e, ..) -/
def tMkG (C : Addr) (fs : List Str) (ta : TA) : L2.St → Hp → XK → Prop := fun σ H Q => ta σ H fun vs H1 => vs.length = fs.length ∧ ∀ d, H1 d = none → Q (.ref C) (some d) (upd H1 d (.xd (fs.zip vs)))
theorem pmk_gex {x : Str} {e : Expr} {es : List Expr} {ta : TA} {p pos : Pos} {k : Nat} {fs : List Str} (T : GexC X.K C) (iC : findIn X.K (.ref C) "__init__" = some (some (.ref fI))) (tI : typeIn X.K (.ref fI) = some (.type "function")) (hI : Inits X.prog X.w X.K C fI fs)
    (hf : fs.length ≤ 1000) (hr : Room k X.A) (hg : Gl X x) (hm : X.mg x = some (.ref C)) (ha : PA X (e :: es) ta) (hdb : (x == ("__debug__" : Str)) = false := by decide)
    (he : starEach (e :: es) X.env = (false, eval e X.env) :: starEach es X.env := by rfl) (hpl : (backTo pos (starEach es X.env)).any (·.1) = false := by rfl) :
    PMk X (.Call (.Name x p) (e :: es) [] pos) (tMkG C fs ta) := by
  intro pins s σ H Q I h
  refine wpAny_Call_Name_kw (ld_glob I hg hm ?_ hdb)
  refine callWith_K (h₀ := X.base) I.ok.mod.kin T.kC (thn (ha.run pos pins s σ H _ I h) fun us s1 ⟨vs, H1, I1, rv, hl, q1⟩ => ⟨I1.kIn, ?_⟩) he hpl
  show wpAny _ _ (call (.ref C) us) _ _ _
  have hlim := I1.nolimit
  obtain ⟨hp, g, dr, tk, os⟩ := s1
  have hu : us.length = fs.length := by rw [← rv.length]; exact hl
  refine wpAny_call (made T iC tI hI I1.kIn hlim (by have := hr.dp; omega) hu (by rw [sizeLine_eq]; omega) fun h' tk' e d M => ?_)
  show MkP X pins σ Q (.ref e) ⟨h', g, dr, tk', os⟩
  obtain ⟨oe, fv, hoe, hc, hd, hdat, h1⟩ := M.obj
  obtain ⟨G, g1, g2⟩ := restrict h' fun b => decide (b ≠ e)
  have gk : ∀ b, b ≠ e → G.get? b = h'.get? b := fun b hb => g1 b (decide_eq_true hb)
  have ge : G.get? e = none := g2 e (by simp)
  have old : ∀ b o, hp.get? b = some o → G.get? b = some o := fun b o q => (gk b (Nat.ne_of_lt (Nat.lt_of_lt_of_le (Heap.lt_size q) M.new))).trans (M.keep b o q)
  have ob : ObjOk X.prog X.w (upd H1 d (.xd (fs.zip vs))) G d (.xd (fs.zip vs)) := ⟨_, M.ns.at (fun o q => (gk d M.dne).trans q), fun f => relO_zip rv f⟩
  have J : Inv X pins σ (upd H1 d (.xd (fs.zip vs))) ⟨G, g, dr, tk', os⟩ := I1.laid (t' := tk') old M.dbig ob
  refine ⟨e, oe, fv, ⟨G, g, dr, tk', os⟩, _, .ref C, some d, rfl, J, fun b o q => ?_, ge, hoe, ⟨hc, hd⟩, hdat, h1, ?_, rfl, I1.bare, raises_own T.exC T.tyC, q1 d (I1.hok.fresh M.dbig)⟩
  · by_cases hb : b = e
    · have q' : G.get? b = some o := q
      rw [hb, ge] at q'; cases q'
    · exact (gk b hb).symm.trans q
  · rw [upd_ne (Ne.symm M.dne)]
    exact I1.hok.fresh M.new
/-- raise C(e, ..) -/
def tRaiseG (C : Addr) (fs : List Str) (W : WX) (ta : TA) : TS := fun _ σ H => tMkG C fs ta σ H fun cls d H' => W cls d σ H'
end
end Gx

/-! rules: isinstance of a held exception, calls within try, at the caller's slots -/
namespace Gx
open PySem PyProof.Rows L2
/-- what isinstance(e, ..), e.f ask of the class of e -/
structure ExK (K : PySem.W.Frag) (D : Addr) : Prop where
  xf : XfC K D
  ha : PySem.W.findIn K (.ref D) "__class__" = some (some (.builtin "object.__class__"))
  hn : PySem.W.specialIn K (.builtin "object.__class__") "__get__" = some (some (.builtin "getset_descriptor.__get__"))
  ht : PySem.W.takesIn K (.builtin "object.__class__") = some true
  hm : PySem.W.mroIn K D (.type "object") = some true
def rIsE2 (K : PySem.W.Frag) (a : Addr) (cls : Value) (d : Option Addr) : List V → Hp → VK → Prop := fun xs H Q => ∃ (D dd : Addr) (fs : List (Str × V)) (c : V), cls = .ref D ∧ ExK K D ∧ d = some dd ∧ H dd = some (.xd fs) ∧ xs = [.ref a, c] ∧
  ((∃ (u : Value) (b : Bool), ClsV c u ∧ PySem.W.kitOne K (.ref D) u = some b ∧ Q (.bl b) H) ∨
   ∃ (tp : Addr) (cs : List V) (us : List Value) (b : Bool), c = .ref tp ∧ SqT K H tp cs ∧ Paired ClsV cs us ∧ PySem.W.kitAny K (.ref D) us = some b ∧ Q (.bl b) H)
section
variable {X : Cx}
theorem call_isE2 {a : Addr} {oe : Obj} {cls : Value} {d : Option Addr} {pn : List (Addr × Obj)} (hz : Zc cls d oe) (hf : ∃ vs, oe.data = .fields vs) : CallR (X.suite a ((a, oe) :: pn)) (.builtin "isinstance") (rIsE2 X.K a cls d) := by
  intro pins s σ H xs us Q I r h
  obtain ⟨D, dd, fs, c, ec, T, ed, hdd, rfl, h⟩ := h
  subst ec; subst ed
  obtain ⟨u1, u2, rfl, r1, r2⟩ := vals2 r
  cases (show u1 = Value.ref a from r1)
  obtain ⟨hget, _⟩ := I.pin (a, oe) (List.mem_append.mpr (.inl List.mem_cons_self))
  obtain ⟨vs, hv⟩ := hf
  have hx : ObjOk X.prog X.w H s.heap dd (.xd fs) := I.hok dd _ hdd
  obtain ⟨mA, hns, _⟩ := hx
  obtain ⟨od, ho, _⟩ := lookIn_ns hns
  have hcl : (PySem.W.clsIn X.K D).isSome = true := by
    have z := T.xf.hdC
    unfold PySem.W.hasDictIn at z
    cases e : PySem.W.clsIn X.K D with
    | some cd => rfl
    | none => rw [e] at z; cases z
  have J : PySem.W.InstAt s.heap a oe D (some od) := by
    refine ⟨hget, hz.1, by unfold PySem.W.notCls; rw [hv] <;> rfl, by rw [hz.2]; exact ho⟩
  have Z := PySem.W.kitx_exc (K := X.K) (x := a) (C := D) (ox := oe) (od := some od) hcl T.xf.ga T.xf.gg T.xf.exC T.ha T.hn T.ht T.hm
  rcases h with ⟨u, b, k, e, q⟩ | ⟨tp, cs, ws, b, rfl, hT, k, e, q⟩
  · have ec := k.eq r2
    subst ec
    exact PySem.W.kia_one Z I.kIn J e (fun z => nomatch z) fun tk => ⟨.bl b, H, I.tok tk, rfl, q⟩
  · cases (show u2 = Value.ref tp from r2)
    obtain ⟨its, rv, ⟨o, h1, h2, n, h3⟩, hz⟩ := I.tuple hT
    have e3 := ClsV.all k rv
    subst e3
    obtain ⟨oc, od, dt, sl⟩ := o
    simp only at h2 h3
    subst h2 h3
    exact PySem.W.kia_tup Z I.kIn J h1 e (fun z => nomatch z) fun tk => ⟨.bl b, H, I.tok tk, rfl, q⟩
end
section
variable {X : Cx} {CX : CXT} {k : Nat} {f C : Addr} {fd : FuncData} {ps : List Str} {sp : Sp} {E : L2.St → XK} {m x : Str} {p pos apos : Pos} {e o : Expr} {es : List Expr} {ta : TE} {t : TA}
def tMethS (C : Addr) (m : Str) (sp : Sp) (E : L2.St → XK) (ta : TE) (t : TA) : TE := fun σ H Q => ta σ H fun x H1 => ∃ a dx fs, x = .ref a ∧ H1 a = some (.ins C dx fs) ∧ fs.lookup m = none ∧ t σ H1 fun vs H2 => sp (x :: vs) H2 Q (E σ)
theorem pe_methS {pl : Sem Bool} (he : PE X o ta) (c : Cls X.K C) (hm : Meth X.K C m f)
    (F : FnOk X.prog X.w X.K X.mg X.base CX k f fd ps sp) (hr : Room k X.A) (hb : Binds X.K fd ps []) (hx : ∀ σ, PassesAt CX X σ (E σ)) (ha : PA X (e :: es) t)
    (hst : starEach (e :: es) X.env = (false, eval e X.env) :: starEach es X.env := by rfl) (hpl : (backTo pos (starEach es X.env)).any (·.1) = false := by rfl)
    (ht : eval (.Call (.Attribute o m apos) (e :: es) [] pos) X.env = (do
      let ov ← eval o X.env
      standAt apos.atName
      let (f, first) ← holding [ov] (getMethod ov m pl)
      callWith pos f first (backTo pos (starEach (e :: es) X.env)) (backToKw pos (keywordEach [] X.env))) := by rfl) :
    PE X (.Call (.Attribute o m apos) (e :: es) [] pos) (tMethS C m sp E ta t) := by
  refine ⟨fun pins s σ H Q I h => ?_⟩
  refine PySem.W.methodCall_KW (pl := pl) (thn (he.run pins s σ H _ I h) fun u s1 ⟨x, H1, I1, rx, a, dx, fs, ex, ea, l, q⟩ => ?_) ht
  subst ex
  obtain rfl : u = Value.ref a := rx
  refine getmeth_ok I1 ea c hm l ?_
  refine PySem.W.callWith_K (first := [.ref a]) (h₀ := X.base) I.ok.mod.kin hm.kp (thn (ha.run pos pins s1 σ H1 _ I1 q) fun us s2 ⟨vs, H2, I2, r, q2⟩ => ⟨I2.kIn, ?_⟩) hst hpl
  exact run_fnS (us := .ref a :: us) (vs := .ref a :: vs) F hr hb (hx σ) I2 (.cons rfl r) q2
/-- C(e, ..) where what is raised is wished for at the slots -/
def tMakeS (C : Addr) (sp : Sp) (E : L2.St → XK) (t : TA) : TE := fun σ H Q => t σ H fun vs H1 => ∀ x dx, H1 x = none → H1 dx = none → dx ≠ x → sp (.ref x :: vs) (upd (upd H1 dx (.own x)) x (.ins C dx [])) (fun v H2 => v = .non ∧ Q (.ref x) H2) (E σ)
theorem pe_makeS (M : Mk X.K C f) (F : FnOk X.prog X.w X.K X.mg X.base CX k f fd ps sp) (hr : Room (k + 1) X.A) (hg : Gl X x) (hm : X.mg x = some (.ref C)) (hb : Binds X.K fd ps []) (hx : ∀ σ, PassesAt CX X σ (E σ)) (ha : PA X (e :: es) t)
    (hdb : (x == ("__debug__" : Str)) = false := by decide) (he : starEach (e :: es) X.env = (false, eval e X.env) :: starEach es X.env := by rfl) (hpl : (backTo pos (starEach es X.env)).any (·.1) = false := by rfl) :
    PE X (.Call (.Name x p) (e :: es) [] pos) (tMakeS C sp E t) := by
  refine ⟨fun pins s0 σ H0 Q I0 h0 => ?_⟩
  refine wpAny_Call_Name_kw (ld_glob I0 hg hm ?_ hdb)
  refine PySem.W.callWith_K (h₀ := X.base) I0.ok.mod.kin M.kp (thn (ha.run pos pins s0 σ H0 _ I0 h0) fun us s ⟨vs, H, I, r, h⟩ => ⟨I.kIn, ?_⟩) he hpl
  have hq := h (s.heap.objs.size + 1) s.heap.objs.size (I.hok.fresh (Nat.le_succ _)) (I.hok.fresh (Nat.le_refl _)) (Nat.ne_of_lt (Nat.lt_succ_self _))
  have I2 := Inv.made (C := C) I
  have r2 : Vals (V.ref (s.heap.objs.size + 1) :: vs) (Value.ref (s.heap.objs.size + 1) :: us) := .cons rfl r
  have n2 : (Value.ref (s.heap.objs.size + 1) :: us).length = ps.length := r2.length.symm.trans (F.len _ _ _ _ hq)
  have b2 := hb _ (Value.ref (s.heap.objs.size + 1) :: us) I2.kIn (by rw [List.append_nil]; exact n2)
  rw [List.append_nil] at b2
  show wpAny _ _ (call (.ref C) us) _ _ _
  refine wpAny_call (make_map (f := f) I.kIn M.makes M.init (beq_iff_eq.mp M.fn) (codeAny_mono (F.run _ X.stack _ _ ⟨Value.ref (s.heap.objs.size + 1) :: us, []⟩ _ _ _ (E σ) (hr.make C us []) (I2.env0.make C us []) b2 r2 hq) fun r s' z => ?_))
  cases r with
  | error y => exact hx σ pins _ _ y s' I2 z
  | ok fl =>
    cases fl with
    | ret u =>
      obtain ⟨v, H', I3, rv, ev, q3⟩ := I2.after z
      subst ev
      exact ⟨rv, V.ref (s.heap.objs.size + 1), H', I3, rfl, q3⟩
    | next => exact False.elim z
    | brk => exact False.elim z
    | cont => exact False.elim z
end
end Gx
namespace Al
open PySem PyProof.Rows L2 Gx
variable [Al.TabList]
section
variable {B : Base} {K : PySem.W.Frag} {σ : AEnv} {M : List MO} {ta te : TE} {t : TA} {asp : ASp} {Φ : AV → List MO → Prop} {Ψ : Exc → List MO → Prop}
theorem Go.up {W W' : Hp} {μ μ' : List Addr} {H H' : Hp} {M' : List MO} (o : Ok B W μ H) (g : Go ⟨W, μ, H⟩ K W μ W' μ' M' H') : Go B K W μ W' μ' M' H' := by
  obtain ⟨e, he⟩ := g.mext
  subst he
  exact ⟨o.trans (fun _ h => h) g.ok rfl, g.sim, g.wext, ⟨e, rfl⟩⟩
theorem Go.of_ok {W W' : Hp} {μ μ' : List Addr} {H H' : Hp} {M' : List MO} (o : Ok ⟨W, μ, H⟩ W' μ' H') (s : Sim K W' μ' M' H') : Go ⟨W, μ, H⟩ K W μ W' μ' M' H' :=
  ⟨o, s, o.wsub, let ⟨e, h, _⟩ := o.pre; ⟨e, h⟩⟩
theorem Ok.up {W W' : Hp} {μ μ' : List Addr} {H H' : Hp} {M' : List MO} (o : Ok B W μ H) (o2 : Ok ⟨W, μ, H⟩ W' μ' H') (s : Sim K W' μ' M' H') : Ok B W' μ' H' := (Go.up (K := K) o (Go.of_ok o2 s)).ok
theorem EFits.of {Ψ' : Exc → List MO → Prop} {E : XK} (h : EFits B K Ψ' E) (f : ∀ x M, Ψ x M → Ψ' x M) : EFits B K Ψ E := fun x M W μ H cls d p => h x M W μ H cls d (f _ _ p)
/-! ### raise -/
theorem as_raise {C : Addr} {fs : List Str} {E : XK} {Φ : AEnds} (qe : EFits B K Ψ E) (h : AA B K t σ M fun xs M1 => ∃ ds : List D, xs = ds.map AV.d ∧ ds.length = fs.length ∧ Ψ (C, fs.zip ds) M1) :
    AS B K (tRaiseG C fs (fun cls d _ H' => E cls d H') t) σ M Φ := fun W μ H τ o s e En f =>
  h W μ H τ o s e _ fun xs M1 W1 μ1 H1 vs ⟨ds, e1, hl, p⟩ f1 r1 => by
    subst e1
    have r2 := r1.of_ds
    refine ⟨by rw [← r2.length]; exact hl, fun dx hd => ?_⟩
    have g := go_new (u := .xd (fs.zip vs)) f1.ok f1.sim hd
    refine qe _ _ _ _ _ _ _ p g.ok g.sim ⟨rfl, dx, vs, rfl, ?_, ?_⟩
    · rw [show ((fs.zip ds).map (·.1)) = fs from by rw [List.map_fst_zip (by omega)]]
      exact upd_same
    · show RDs K _ ((fs.zip ds).map (·.2)) vs
      rw [show ((fs.zip ds).map (·.2)) = ds from by rw [List.map_snd_zip (by omega)]]
      exact RDs.mono g.wext r2
/-! ### try -/
/-- what is raised in a try's body: with the slots -/
def XF (B : Base) (K : PySem.W.Frag) (Ψ : Exc → AEnv → List MO → Prop) (Wx : WX) : Prop := ∀ x σ' M' W' μ' H' τ' cls d, Ψ x σ' M' → Ok B W' μ' H' → Sim K W' μ' M' H' → RE K W' μ' σ' τ' → RX K W' H' x cls d → Wx cls d τ' H'
theorem sent_runS {Ψ : Exc → AEnv → List MO → Prop} {Wx : WX} {W W1 : Hp} {μ μ1 : List Addr} {H1 : Hp} {M1 : List MO} {τ : L2.St} {xs : List AV} {vs : List V} {Q : VK} (mono : Mono asp) (qx : XF B K Ψ Wx) (f1 : Go B K W μ W1 μ1 M1 H1) (e : RE K W μ σ τ) (r : RAs K W1 μ1 xs vs)
    (p : Sent asp xs M1 Φ (fun x M' => Ψ x σ M')) (q : ∀ z M' W' μ' H' v, Φ z M' → Go B K W1 μ1 W' μ' M' H' → RA K W' μ' z v → Q v H') : conc K asp vs H1 Q (WE Wx τ) :=
  sent_run (B := ⟨W1, μ1, H1⟩) mono .refl f1.sim r p (fun z M' W' μ' H' v p2 f2 r2 => q _ _ _ _ _ _ p2 (Go.up f1.ok f2) r2)
    fun x M' W' μ' H' cls d px o' s' rx => qx x σ M' W' μ' H' τ cls d px (Ok.up f1.ok o' s') s' (by
      have g2 := Go.of_ok o' s'
      exact g2.re (f1.re e)) rx
theorem ae_callS {Ψ : Exc → AEnv → List MO → Prop} {Wx : WX} (mono : Mono asp) (qx : XF B K Ψ Wx) (h : AA B K t σ M fun xs M1 => Sent asp xs M1 Φ (fun x M' => Ψ x σ M')) : AE B K (tCallS (conc K asp) (WE Wx) t) σ M Φ := fun W μ H τ o s e Q q =>
  h W μ H τ o s e _ fun xs M1 W1 μ1 H1 vs p f1 r1 => sent_runS mono qx f1 e r1 p fun z M' W' μ' H' v p2 f2 r2 => q _ _ _ _ _ _ p2 (f1.trans f2) r2
theorem ae_methS {C : Addr} {m : Str} {Ψ : Exc → AEnv → List MO → Prop} {Wx : WX} (mono : Mono asp) (qx : XF B K Ψ Wx)
    (h : AE B K ta σ M fun x M1 => ∃ ns l, x = .d (.ins C ns l) ∧ m ∉ ns ∧ AA B K t σ M1 fun xs M2 => Sent asp (x :: xs) M2 Φ (fun x M' => Ψ x σ M')) : AE B K (tMethS C m (conc K asp) (WE Wx) ta t) σ M Φ := fun W μ H τ o s e Q q =>
  h W μ H τ o s e _ fun x M1 W1 μ1 H1 v ⟨ns, l, e1, hm, p⟩ f1 r1 => by
    subst e1
    have r1' := r1
    obtain ⟨a, dx, vs, rfl, h1, h2, h3⟩ := r1
    refine ⟨a, dx, ns.zip vs, rfl, f1.sim.sub _ _ h1, lookup_zip_none hm, p W1 μ1 H1 τ f1.ok f1.sim (f1.re e) _ fun xs M2 W2 μ2 H2 ws p2 f2 r2 => ?_⟩
    exact sent_runS mono qx (f1.trans f2) e (ras_cons (f2.ra r1') r2) p2 fun z M' W' μ' H' v p3 f3 r3 => q _ _ _ _ _ _ p3 ((f1.trans f2).trans f3) r3
theorem ae_makeS {C : Addr} {Ψ : Exc → AEnv → List MO → Prop} {Wx : WX} (mono : Mono asp) (qx : XF B K Ψ Wx)
    (h : AA B K t σ M fun xs M1 => Sent asp (.m M1.length :: xs) (M1 ++ [.ins C [] []]) (MadeOk C M1.length Φ) (fun x M' => Ψ x σ M')) : AE B K (tMakeS C (conc K asp) (WE Wx) t) σ M Φ := fun W μ H τ o s e Q q =>
  h W μ H τ o s e _ fun xs M1 W1 μ1 H1 vs p f1 r1 x dx hx hdx ne => by
    obtain ⟨Wm, gm⟩ := go_made (C := C) f1.ok f1.sim hx hdx ne
    have gx := f1.trans gm
    have rx : RA K Wm (μ1 ++ [x]) (.m M1.length) (.ref x) := ⟨x, by rw [← f1.sim.len, List.getElem?_append_right (Nat.le_refl _), Nat.sub_self]; rfl, rfl⟩
    refine sent_runS mono qx gx e (ras_cons rx (gm.ras r1)) p fun z M' W' μ' H' v p2 g r => ?_
    exact made_run f1 f1.sim.len q z M' W' μ' H' v Wm _ gm p2 g r
/-- try: body / except c as n: suite, where each exception that comes is of c -/
theorem as_try {c : Value} {i : Nat} {tb : WX → TS} {ts : Addr → Value → Option Addr → TS} {Φ : AEnds} {Wout : WX} (Ψ : Exc → AEnv → List MO → Prop)
    (hb : ∀ (B2 : Base) (Wx : WX), B2.μ0.length = M.length → XF B2 K Ψ Wx → AS B2 K (tb Wx) σ M Φ)
    (hs : ∀ x σ' M', Ψ x σ' M' → PySem.W.exmOne K (.ref x.1) c = some true ∧ ∀ a dx, AS B K (ts a (.ref x.1) (some dx)) (σ'.set i (some (.d (.exc a dx x.1 (x.2.map (·.1)) (x.2.map (·.2)))))) M'
      { nx := fun σ M => Φ.nx (σ.set i none) M, rt := Φ.rt, bk := fun σ M => Φ.bk (σ.set i none) M, ct := fun σ M => Φ.ct (σ.set i none) M }) :
    AS B K (fun D σ H => tb (wAs K c i ts Wout D) D σ H) σ M Φ := fun W μ H τ o s e En f => by
  refine hb ⟨W, μ, H⟩ _ s.len (fun x σ' M' W' μ' H' τ' cls d px o' s' e' rx => ?_) W μ H τ .refl s e En ⟨fun σ' M' W' μ' H' τ' p g r => f.nx _ _ _ _ _ _ p (Go.up o g) r, fun y M' W' μ' H' v p g r => f.rt _ _ _ _ _ _ p (Go.up o g) r, fun σ' M' W' μ' H' τ' p g r => f.bk _ _ _ _ _ _ p (Go.up o g) r, fun σ' M' W' μ' H' τ' p g r => f.ct _ _ _ _ _ _ p (Go.up o g) r⟩
  obtain ⟨rfl, dx, vs, rfl, hx, hv⟩ := rx
  obtain ⟨h1, h2⟩ := hs x σ' M' px
  have g : Go B K W μ W' μ' M' H' := Go.up o (Go.of_ok o' s')
  refine ⟨true, h1, fun _ a _ => ?_, fun z => nomatch z⟩
  refine h2 a dx W' μ' H' _ g.ok g.sim (RE.set (x := .d (.exc a dx x.1 (x.2.map (·.1)) (x.2.map (·.2)))) e' ⟨vs, rfl, hx, by simp, hv⟩ i) _ ⟨fun σ3 M3 W3 μ3 H3 τ3 p g3 r => f.nx _ _ _ _ _ _ p (g.trans g3) (r.setN i), fun y M3 W3 μ3 H3 v p g3 r => f.rt _ _ _ _ _ _ p (g.trans g3) r, fun σ3 M3 W3 μ3 H3 τ3 p g3 r => f.bk _ _ _ _ _ _ p (g.trans g3) (r.setN i), fun σ3 M3 W3 μ3 H3 τ3 p g3 r => f.ct _ _ _ _ _ _ p (g.trans g3) (r.setN i)⟩
/-! ### in the suite -/
theorem lookup_zipV {W : Hp} {f : Str} {d : D} : ∀ {ns : List Str} {l : List D} {vs : List V}, RDs K W l vs → (ns.zip l).lookup f = some d → ∃ v, (ns.zip vs).lookup f = some v ∧ RD K W d v := fun {ns l vs} r h => by
  obtain ⟨v, h1, h2⟩ := lookup_zip (μ := []) (ras_ds r) (lookup_zipD h)
  exact ⟨v, h1, h2⟩
theorem ae_xf {a dx C : Addr} {f : Str} {ns : List Str} {l : List D} {y : D} (h : AE B K te σ M fun x M1 => x = .d (.exc a dx C ns l) ∧ (ns.zip l).lookup f = some y ∧ Φ (.d y) M1) : AE B K (tXf a (.ref C) (some dx) C f te) σ M Φ := fun W μ H τ o s e Q q =>
  h W μ H τ o s e _ fun x M1 W1 μ1 H1 v ⟨e1, hl, p⟩ f1 r1 => by
    subst e1
    obtain ⟨vs, rfl, hx, hn, hv⟩ := r1
    obtain ⟨w, h1, h2⟩ := lookup_zipV hv hl
    exact ⟨rfl, rfl, dx, _, w, rfl, f1.sim.sub _ _ hx, h1, q _ _ _ _ _ _ p f1 h2⟩
theorem ac_isE {a dx C : Addr} {ns : List Str} {l : List D} {c : D} {u : Value} {b : Bool} (T : ExK K C) (hc : (∃ n, c = .ty n ∧ u = .type n) ∨ ∃ D, c = .adr D ∧ u = .ref D) (hb : PySem.W.kitOne K (.ref C) u = some b) (k : Φ (.d (.bl b)) M) :
    AC B K (rIsE2 K a (.ref C) (some dx)) [.d (.exc a dx C ns l), .d c] M Φ := fun W μ H us o s r Q q => by
  obtain ⟨v, w, rfl, r1, r2⟩ := ra_two r
  obtain ⟨vs, rfl, hx, hn, hv⟩ := r1
  refine ⟨C, dx, _, w, rfl, T, rfl, s.sub _ _ hx, rfl, .inl ⟨u, b, ?_, hb, q _ _ _ _ _ _ k (.refl o s) rfl⟩⟩
  rcases hc with ⟨n, rfl, rfl⟩ | ⟨D, rfl, rfl⟩
  · cases r2; exact .ty n
  · cases r2; exact .own D
def clsD : D → Option Value | .ty n => some (.type n) | .adr D => some (.ref D) | _ => none
theorem cls_all {W : Hp} : ∀ {l : List D} {vs : List V} {us : List Value}, RDs K W l vs → l.map clsD = us.map some → Paired ClsV vs us
  | [], _, [], h, _ => by cases h; exact .nil
  | [], _, _ :: _, _, h => by cases h
  | d :: l, _, [], _, h => by cases h
  | d :: l, _, u :: us, ⟨v, r, e1, h1, h2⟩, h => by
    subst e1
    rw [List.map_cons, List.map_cons] at h
    obtain ⟨ha, hb⟩ := List.cons.inj h
    refine .cons ?_ (cls_all h2 hb)
    cases d with
    | ty n => cases ha; cases h1; exact .ty n
    | adr D => cases ha; cases h1; exact .own D
    | _ => cases ha
theorem ac_isEt {a dx C : Addr} {ns : List Str} {l cs : List D} {us : List Value} {b : Bool} (T : ExK K C) (hc : cs.map clsD = us.map some) (hb : PySem.W.kitAny K (.ref C) us = some b) (k : Φ (.d (.bl b)) M) :
    AC B K (rIsE2 K a (.ref C) (some dx)) [.d (.exc a dx C ns l), .d (.tup cs)] M Φ := fun W μ H vs o s r Q q => by
  obtain ⟨v, w, rfl, r1, r2⟩ := ra_two r
  obtain ⟨vs, rfl, hx, hn, hv⟩ := r1
  obtain ⟨tp, ws, rfl, h1, h2⟩ := r2
  exact ⟨C, dx, _, _, rfl, T, rfl, s.sub _ _ hx, rfl, .inr ⟨tp, ws, us, b, rfl, sqt_mono s.sub h1, cls_all h2 hc, hb, q _ _ _ _ _ _ k (.refl o s) rfl⟩⟩
end
end Al

/-! lambdas made: the function object is known from then on -/
namespace Lm
open PySem PySem.Spec PyProof.Rows L2 LamX
/-- its words, the cells that it captured, its code object -/
structure LF where
  qual : Str
  params : Arguments
  body : Expr
  scope : Scope
  cl : List (Str × Addr)
  c : Addr
def LamO (f : Addr) (F : LF) : HO := .ext fun h => ∃ (od : Option Addr) (sl : Array (Option Value)) (pm ctv : Value), h.get? f = some (⟨.type "function", od, .func (PySem.W.kla_fn "<lambda>" F.qual F.params F.body F.scope F.cl pm (.ref F.c) ctv), sl⟩ : Obj)
theorem lamO_at {P : Program} {w : World} {H : Hp} {h : Heap} {f : Addr} {F : LF} (hok : HOk P w H h) (e : H f = some (LamO f F)) :
    ∃ (od : Option Addr) (sl : Array (Option Value)) (pm ctv : Value), h.get? f = some (⟨.type "function", od, .func (PySem.W.kla_fn "<lambda>" F.qual F.params F.body F.scope F.cl pm (.ref F.c) ctv), sl⟩ : Obj) := by
  obtain ⟨z, _, _⟩ := hok f _ e
  exact z
section
variable {X : Cx} {pins : List (Addr × Obj)} {σ : L2.St} {H : Hp} {s : Shared}
theorem inv_lam {F : LF} {o : Obj} {t' : Nat} {pm ctv : Value} (I : Inv X pins σ H s) (ho : o = PySem.W.kla_obj "<lambda>" F.qual F.params F.body F.scope F.cl pm F.c ctv) :
    Inv X pins σ (upd H s.heap.objs.size (LamO s.heap.objs.size F)) { s with heap := s.heap.push o, toks := t' } := by
  subst ho
  refine I.laid (a := s.heap.objs.size) (fun b u e => Heap.get?_push_of_some _ e) (Nat.le_refl _) ?_
  have e : (s.heap.push (PySem.W.kla_obj "<lambda>" F.qual F.params F.body F.scope F.cl pm F.c ctv)).get? s.heap.objs.size = some (PySem.W.kla_obj "<lambda>" F.qual F.params F.body F.scope F.cl pm F.c ctv) := Heap.get?_push_size _ rfl
  exact ⟨⟨_, _, pm, ctv, e⟩, ⟨_, e⟩, fun h1 h2 ⟨od, sl, p, t, z⟩ st => ⟨od, sl, p, t, st _ z⟩⟩
/-- the lambda is made: its code object is new, or found in the table -/
theorem lam_make3 {T : List (Addr × Str)} {c P : Addr} {params : Arguments} {body : Expr} {scope : Scope} {pos : Pos} {E : Value → Shared → Prop} {Q : Value → Shared → Prop} (I : Inv X pins σ H s) (TB : TabB X.base X.mg c P) (hcode : X.env.code = .ref c)
    (hm : (P, X.env.qual ++ "<lambda>") ∈ T) (hu : ∀ p ∈ T, p.1 = P → p.2 = X.env.qual ++ "<lambda>") (hT : LamX.Tabs T H) (hdef : defaultsOf params X.env = ([], [])) (hfree : ∀ y ∈ scope.names, y.2 = .free → ∃ c, X.env.cells.lookup y.1 = some c)
    (h : ∀ (f c' : Addr) (H1 : Hp) (s' : Shared), Inv X pins σ H1 s' → (∀ b o, H b = some o → b ≠ P → H1 b = some o) → (∀ b, H1 b = Option.none → H b = Option.none) → LamX.Tabs T H1 → H f = none → H1 f = some (LamO f ⟨X.env.qual ++ "<lambda>", params, body, scope, cloFrom X.env.cells scope.names [], c'⟩) → H1 c' = some (CodeO c' (X.env.qual ++ "<lambda>")) → Q (.ref f) s') :
    wpAny (model X.prog X.w) X.A (eval (.Lambda params body scope pos) X.env) Q E s := by
  obtain ⟨ps, hP, ht, ha⟩ := hT _ hm
  refine PySem.W.kla_eval hdef ?_
  have bP : s.heap.BuiltinsAt X.mg P := TB.bm.keeps I.bk
  have hP' : s.heap.get? P = some { cls := .none, data := .fields ps } := I.hok P _ hP
  cases hc : codeAmong pos ps.toList with
  | none =>
    refine PySem.W.kla_makeFunction (mg := X.mg) (c := c) (P := P) (ps := ps) (closure_ok hfree) I.ok.glob (I.mod.glob.keeps I.bk) hcode (TB.code.keeps I.bk) hP' ht hc TB.gP bP fun c' ctv h' tk hx hge hlt hrec htb => ?_
    obtain ⟨c2, oc, vs, t, e2, hoc, hd, hv⟩ := hrec
    cases e2
    have nC : H c' = none := I.hok.fresh hge
    have I1 := inv_table (t' := tk) (more := #[rawInt pos.line, rawInt pos.col, .ref c']) (h' := h') I hP (fun b o hb e => hx b o hb e) htb hge ⟨oc, vs, t, hoc, hd, hv⟩
    have hE : ExtN H (upd (upd H P (.tbl (ps ++ #[rawInt pos.line, rawInt pos.col, .ref c']))) c' (CodeO c' (X.env.qual ++ "<lambda>"))) := fun b o e n => by
      rw [upd_ne (ne_of_none e nC), upd_ne (fun z => n ps (Option.some.inj (e.symm.trans (by rw [z]; exact hP))))]
      exact e
    have eL : (ps ++ #[rawInt pos.line, rawInt pos.col, .ref c']).toList = ps.toList ++ [rawInt pos.line, rawInt pos.col, .ref c'] := by simp
    have T1 : LamX.Tabs T (upd (upd H P (.tbl (ps ++ #[rawInt pos.line, rawInt pos.col, .ref c']))) c' (CodeO c' (X.env.qual ++ "<lambda>"))) := fun p hp => by
      by_cases hb : p.1 = P
      · rw [hu p hp hb, hb]
        refine ⟨_, by rw [upd_ne (ne_of_none hP nC), upd_same], by rw [eL]; exact PySem.TriplesOk_snoc _ _ _ _ ht, fun p' cv hcv => ?_⟩
        rw [eL] at hcv
        rcases among_app _ ht hcv with z | z
        · obtain ⟨c0, e1, e2⟩ := ha p' cv z
          exact ⟨c0, e1, hE _ _ e2 codeO_ne⟩
        · exact ⟨c', z, upd_same⟩
      · obtain ⟨ps', a1, a2, a3⟩ := hT p hp
        refine ⟨ps', by rw [upd_ne (ne_of_none a1 nC), upd_ne hb]; exact a1, a2, fun p' cv hcv => ?_⟩
        obtain ⟨c0, e1, e2⟩ := a3 p' cv hcv
        exact ⟨c0, e1, hE _ _ e2 codeO_ne⟩
    have nF := I1.hok.fresh (Nat.le_refl _)
    have I2 := inv_lam (F := ⟨X.env.qual ++ "<lambda>", params, body, scope, cloFrom X.env.cells scope.names [], c'⟩) (t' := tk) (pm := (X.mg "__name__").getD .none) (ctv := ctv) I1 rfl
    have hE2 : ∀ b o, H b = some o → b ≠ P → upd (upd H P (.tbl (ps ++ #[rawInt pos.line, rawInt pos.col, .ref c']))) c' (CodeO c' (X.env.qual ++ "<lambda>")) b = some o := fun b o e n => by
      rw [upd_ne (ne_of_none e nC), upd_ne n]
      exact e
    refine h h'.objs.size c' _ _ I2 (fun b o e n => ?_) (fun b e => NdefX.upd_none (NdefX.upd_none (NdefX.upd_none e))) (T1.ext fun b o e => ?_) (I.hok.fresh (Nat.le_trans hge (Nat.le_of_lt hlt))) upd_same ?_
    · have e1 := hE2 b o e n
      exact (upd_ne (ne_of_none e1 nF)).trans e1
    · exact (upd_ne (ne_of_none e nF)).trans e
    · exact (upd_ne (Nat.ne_of_lt hlt)).trans upd_same
  | some cv =>
    obtain ⟨c', e, hco⟩ := ha pos cv hc
    subst e
    refine PySem.W.kla_makeFunctionHit (mg := X.mg) (c := c) (P := P) (ps := ps) (closure_ok hfree) I.ok.glob (I.mod.glob.keeps I.bk) hcode (TB.code.keeps I.bk) hP' ht hc bP fun ctv h' tk hx hsz => ?_
    have I1 : Inv X pins σ H { s with heap := h', toks := tk } := I.kept hx
    have nF : H h'.objs.size = none := I1.hok.fresh (Nat.le_refl _)
    have I2 := inv_lam (F := ⟨X.env.qual ++ "<lambda>", params, body, scope, cloFrom X.env.cells scope.names [], c'⟩) (t' := tk) (pm := (X.mg "__name__").getD .none) (ctv := ctv) I1 rfl
    refine h h'.objs.size c' _ _ I2 (fun b o e n => ?_) (fun b e => NdefX.upd_none e) (hT.ext fun b o e => ?_) nF upd_same ?_
    · exact (upd_ne (ne_of_none e nF)).trans e
    · exact (upd_ne (ne_of_none e nF)).trans e
    · exact (upd_ne (ne_of_none hco nF)).trans hco
end
end Lm

/-! isinstance of a function -/
namespace Isf
open PySem
open Sem (wp)
open PySem.F
namespace F
theorem entry_fn_ga : entryFor table "object.__getattribute__" = some Builtin.«object.__getattribute__» := entryFor_of_tree (by kernel_rfl)
theorem slot_fn_getattribute : Slot "function" "__getattribute__" "object.__getattribute__" :=
  .of (owner := "object") (n := "__getattribute__") (by rw [typeLookup_type, builtinLookup_eq_fast]; kernel_rfl) (by decide +kernel) (by decide +kernel) (by decide +kernel)
    (by first | exact .inl (by decide +kernel) | exact .inr (by decide +kernel)) (by rw [isSubtype_type]; kernel_rfl)
theorem lk_fn_class : typeLookup (.type "function") "__class__" = pure (some (.builtin "object.__class__")) := by rw [typeLookup_type, builtinLookup_eq_fast]; kernel_rfl
theorem sub_fn_class_owner : isSubtype (.type "function") (.type (".".intercalate ("object.__class__".cutAt '.').dropLast)) = pure true := by
  rw [owner_object_class, isSubtype_type]; kernel_rfl
end F

section
variable {prog : Program} {w : World} {A : Around} {E : Value → Shared → Prop} {h : Heap} {g : Array GenState} {d : Drawn} {t : Nat} {os : OsState} {a : Addr} {o : Obj}

theorem class_get_fn {R : Result → Shared → Prop} (hx : h.get? a = some o) (hc : o.cls = .type "function") (hq : R (.ok (.ret (.type "function"))) ⟨h, g, d, t, os⟩) :
    codeAny (model prog w) A (.call (.builtin "getset_descriptor.__get__") ⟨[.builtin "object.__class__", .ref a, .type "function"], []⟩) R ⟨h, g, d, t, os⟩ := by
  have hT : (⟨h, g, d, t, os⟩ : Shared).TypeIs (.ref a) "function" := ⟨_, hx, hc⟩
  have hT5 : (⟨h, g, d, t, os⟩ : Shared).TypeIs (.builtin "object.__class__") "getset_descriptor" := F.typeOf_object_class
  have f8 := F.sub_fn_class_owner
  refine codeAny_call_builtin F.slot_gs_get.plain F.entry_gs_get (F.slot_gs_get.check _ _ _ _ _ _ _ _ hT5 (F.args_gs_get _ _ _) ?_)
  repeat (any_goals (first | assumption | wp_step))
  refine ⟨Code.quiet_builtin _ (by decide +kernel), codeAny_builtin F.entry_object_class ?_⟩
  repeat (any_goals (first | assumption | wp_step))

theorem class_entry_fn {tk : Tok} {Q : Fin → Shared → Prop} (hx : h.get? a = some o) (hc : o.cls = .type "function") (hq : Q (.done (.ret (.type "function"))) ⟨h, g, d, t, os⟩) :
    wpAny (model prog w) A (Builtin.«object.__getattribute__» ⟨[.ref a, .str "__class__" tk], []⟩) Q E ⟨h, g, d, t, os⟩ := by
  have hT : (⟨h, g, d, t, os⟩ : Shared).TypeIs (.ref a) "function" := ⟨_, hx, hc⟩
  have hT5 : (⟨h, g, d, t, os⟩ : Shared).TypeIs (.builtin "object.__class__") "getset_descriptor" := F.typeOf_object_class
  have f4 := F.lk_fn_class
  have f5 := F.typeOf_object_class
  have f6 := F.slot_gs_get.lookup
  have f7 := F.slot_gs_set.lookup
  repeat (any_goals (first | assumption | wp_step))
  refine class_get_fn hx hc ?_
  repeat (any_goals (first | assumption | wp_step))

theorem class_call_fn {tk : Tok} {R : Result → Shared → Prop} (hx : h.get? a = some o) (hc : o.cls = .type "function") (hq : R (.ok (.ret (.type "function"))) ⟨h, g, d, t, os⟩) :
    codeAny (model prog w) A (.call (.builtin "object.__getattribute__") ⟨[.ref a, .str "__class__" tk], []⟩) R ⟨h, g, d, t, os⟩ :=
  codeAny_call_builtin F.slot_fn_getattribute.plain F.entry_fn_ga (F.slot_fn_getattribute.check _ _ _ _ _ _ _ _ (show (⟨h, g, d, t, os⟩ : Shared).TypeIs (.ref a) "function" from ⟨_, hx, hc⟩) (F.args_object_getattribute_2 _ _) (class_entry_fn hx hc hq))

theorem class_by_fn {tk : Tok} {Q : Value → Shared → Prop} (hx : h.get? a = some o) (hc : o.cls = .type "function") (hq : Q (.type "function") ⟨h, g, d, t, os⟩) : wpAny (model prog w) A (getAttrBy (.ref a) (.str "__class__" tk) false) Q E ⟨h, g, d, t, os⟩ := by
  have hT : (⟨h, g, d, t, os⟩ : Shared).TypeIs (.ref a) "function" := ⟨_, hx, hc⟩
  have f2 := F.slot_fn_getattribute.lookup
  have f3 := F.slot_fn_getattribute.bind (.ref a)
  repeat (any_goals (first | assumption | wp_step))
  refine class_call_fn hx hc ?_
  repeat (any_goals (first | assumption | wp_step))

theorem class_attr_fn {Q : Option Value → Shared → Prop} (hx : h.get? a = some o) (hc : o.cls = .type "function") (hq : Q (some (.type "function")) ⟨h, g, d, t + 1, os⟩) : wpAny (model prog w) A (getAttr? (.ref a) "__class__") Q E ⟨h, g, d, t, os⟩ := by
  unfold getAttr? getAttrBy?
  repeat (any_goals (first | assumption | with_reducible apply class_by_fn hx hc | wp_step))

end
open PySem.W
theorem kitx_fn {K : Frag} {a : Addr} : KitX K (.ref a) (.type "function") (KitAt a "function") := kitx_of kitAt_ty (fun {_ _ _ _ _ s} p k => by obtain ⟨h, g, d, t, os⟩ := s; obtain ⟨o, h1, h2⟩ := p; exact class_attr_fn h1 h2 k)
end Isf
namespace Lm
open PySem PySem.Spec PyProof.Rows L2
/-- isinstance of a lambda -/
def rIsiF (K : PySem.W.Frag) : List V → Hp → VK → Prop := fun xs H Q => ∃ (a : Addr) (F : LF) (c : V) (u : Value) (b : Bool), xs = [.ref a, c] ∧ ClsV c u ∧ H a = some (LamO a F) ∧ PySem.W.kitOne K (.type "function") u = some b ∧ Q (.bl b) H
theorem call_isiF {X : Cx} : CallR X (.builtin "isinstance") (rIsiF X.K) := by
  intro pins s σ H xs us Q I r h
  obtain ⟨a, F, c, u, b, rfl, k, hf, e, q⟩ := h
  obtain ⟨u1, u2, rfl, r1, r2⟩ := vals2 r
  have e2 := k.eq r2
  subst e2
  cases (show u1 = Value.ref a from r1)
  obtain ⟨od, sl, pm, ctv, ho⟩ := lamO_at I.hok hf
  exact PySem.W.kia_one Isf.kitx_fn I.kIn ⟨_, ho, rfl⟩ e (fun z => nomatch z) fun tk => ⟨.bl b, H, I.tok tk, rfl, q⟩
end Lm

/-! one rule for each sign, whatever it is asked of -/
namespace Al
open PySem PyProof.Rows L2
variable [Al.TabList]
def rStrAdd : R2 := fun x y H Q => ∃ i j, x = .str i ∧ y = .str j ∧ i.length + j.length ≤ sizeLine ∧ Q (.str (i ++ j)) H
def uAdd (K : PySem.W.Frag) : R2 := fun x y H Q => rI0 (fun i j => .int (i + j)) x y H Q ∨ rCat x y H Q ∨ rStrAdd x y H Q ∨ rCatA K x y H Q
def uMul (K : PySem.W.Frag) : R2 := fun x y H Q => rI CMul (fun i j => .int (i * j)) x y H Q ∨ rRep x y H Q ∨ rRepT K x y H Q
def uEq (K : PySem.W.Frag) : R2 := fun x y H Q => rEq x y H Q ∨ rEqD K x y H Q
def uNe (K : PySem.W.Frag) : R2 := fun x y H Q => rNe x y H Q ∨ rNeD K x y H Q
def uLen (K : PySem.W.Frag) : List V → Hp → VK → Prop := fun xs H Q => (∃ p ys, xs = [.ref p] ∧ (SqL K H p ys ∨ SqT K H p ys) ∧ Q (.int ys.length) H) ∨ ∃ z, xs = [.str z] ∧ z.length ≤ sizeLine ∧ Q (.int z.length) H
def uIsi (K : PySem.W.Frag) : List V → Hp → VK → Prop := fun xs H Q => (rIsi K xs H Q ∨ rIsiT K xs H Q) ∨ Lm.rIsiF K xs H Q
def uSl (K : PySem.W.Frag) : V → Option Int → Option Int → Hp → VK → Prop := fun x lo hi H Q => rSlL K x lo hi H Q ∨ rSlT K x lo hi H Q ∨ rSlS x lo hi H Q
section
variable {X : Cx}
theorem u_add : OpR X (binaryOp .Add) (uAdd X.K) := op_add.or (op_cat.or (op_add_str.or op_catA))
theorem u_mul : OpR X (binaryOp .Mult) (uMul X.K) := op_mul.or (op_rep.or op_repT)
theorem u_eq (hu : X.A.units + 64 < cLine) : OpR X (compareOp .Eq) (uEq X.K) := op_eq.or (op_eqD hu)
theorem u_ne (hu : X.A.units + 64 < cLine) : OpR X (compareOp .NotEq) (uNe X.K) := op_ne.or (op_neD hu)
theorem u_len : CallR X (.builtin "len") (uLen X.K) := call_len_seq.or call_len_str
theorem u_isi : CallR X (.builtin "isinstance") (uIsi X.K) := (call_isi.or call_isiT).or Lm.call_isiF
theorem u_sl : SlR X (uSl X.K) := sl_list.or (sl_tup.or sl_str)
/-- len(set(t)), t a tuple of ints -/
def tLenSetT (K : PySem.W.Frag) (ta : TE) : TE := fun σ H Q => ta σ H fun x H1 => ∃ (p : Addr) (ns : List Int), x = .ref p ∧ SqT K H1 p (ns.map V.int) ∧ ns.length ≤ 1000 ∧ ∀ out : List Int, out.Nodup → (∀ k, k ∈ out ↔ k ∈ ns) → Q (.int (out.length : Nat)) H1
theorem pe_lenSetT {a : Expr} {ta : TE} {p p2 q pos : Pos} (hg : Gl X "len") (hm : X.mg "len" = none) (hg2 : Gl X "set") (hm2 : X.mg "set" = none) (ha : PE X a ta) (hc : X.calm = true := by rfl)
    (na : starEach [a] X.env = (false, eval a X.env) :: starEach [] X.env := by rfl) : PE X (.Call (.Name "len" p) [.Call (.Name "set" p2) [a] [] q] [] pos) (tLenSetT X.K ta) := by
  refine ⟨fun pins s σ H Q I h => ?_⟩
  refine Call_ (ld_blt I hg hm boot_len ?_)
  refine PyProof.Rows.callWith_builtin1 (PyProof.Rows.args_cons ?_ rfl) rfl rfl
  refine Call_ (ld_blt I hg2 hm2 PyProof.Rows.boot_set ?_)
  refine PyProof.Rows.callWith_type1 (PyProof.Rows.args_cons (thn (ha.run pins s σ H _ I h) fun v s1 ⟨x, H1, I1, r1, q1⟩ => PyProof.Rows.args_nil ?_) na) na rfl
  obtain ⟨t, ns, rfl, hq, hl, q1⟩ := q1
  cases r1
  obtain ⟨its, rv, pt, hz⟩ := I1.tuple hq
  have hi : IntsAre its.toArray.toList ns := ints_of_vals rv
  refine call_set_tupI ns (I1.ok.hd hc) (show s1.heap.IsTuple t its.toArray from pt) hi (by unfold scanBound; omega) fun h' tk c R1 hcn k => ?_
  refine PyProof.Rows.args_nil ?_
  obtain ⟨o, es, ep, tb, ho, hex, hd, g, nd, hm3, hb, hf, hn, _⟩ := R1
  have I2 : Inv X pins σ H1 { s1 with heap := h', toks := tk } := I1.kept k
  have hlen : (es.toList.map keyOf).length = es.size := by simp
  refine call_len_set ho hex hd hf (by unfold scanBound at hb; omega) ⟨.int es.size, H1, I2.tok _, ⟨_, rfl⟩, ?_⟩
  have z := q1 (es.toList.map keyOf) nd (fun k => by rw [← hm3 k]; simp)
  rwa [hlen] at z
end
section
variable {B : Base} {K : PySem.W.Frag} {σ : AEnv} {M : List MO} {ta tb te to : TE} {t : TA} {x y : AV} {Φ : AV → List MO → Prop}
/-! ### sequences of both kinds -/
inductive STV (M : List MO) : AV → List D → Prop
  | lst (l : List D) : STV M (.d (.lst l)) l
  | scr (l : List D) : STV M (.d (.scr l)) l
  | mm {k : Nat} {l : List D} (h : M[k]? = some (.lst l)) : STV M (.m k) l
  | tup (l : List D) : STV M (.d (.tup l)) l
theorem STV.run {W H : Hp} {μ : List Addr} {l : List D} {v : V} (h : STV M x l) (s : Sim K W μ M H) (r : RA K W μ x v) : ∃ a vs, v = .ref a ∧ (SqL K H a vs ∨ SqT K H a vs) ∧ RDs K W l vs := by
  cases h with
  | lst l => obtain ⟨a, vs, rfl, h1, h2⟩ := r; exact ⟨a, vs, rfl, .inl (SqL.of (s.sub _ _ h1)), h2⟩
  | scr l => obtain ⟨a, vs, rfl, h1, h2⟩ := r; exact ⟨a, vs, rfl, .inl (s.sub.seq h1), h2⟩
  | @mm k l hm =>
    obtain ⟨a, ha, rfl⟩ := r
    obtain ⟨vs, h1, h2⟩ := s.ob k a _ ha hm
    exact ⟨a, vs, rfl, .inl (SqL.of h1), h2⟩
  | tup l => obtain ⟨a, vs, rfl, h1, h2⟩ := r; exact ⟨a, vs, rfl, .inr (sqt_mono s.sub h1), h2⟩
/-! ### + -/
theorem ur_addI {i j : Int} (k : Φ (.d (.int (i + j))) M) : AR B K (uAdd K) (.d (.int i)) (.d (.int j)) M Φ := fun W μ H u w o s hu hw Q q => .inl (ar_i0 k W μ H u w o s hu hw Q q)
theorem ur_addL {l m : List D} (h : SL M x l) (h' : SL M y m) (hz : l.length + m.length ≤ sizeLine) (k : Φ (.d (.lst (l ++ m))) M) : AR B K (uAdd K) x y M Φ := fun W μ H u w o s hu hw Q q => .inr (.inl (ar_cat h h' hz k W μ H u w o s hu hw Q q))
theorem ur_addS {i j : Str} (hz : i.length + j.length ≤ sizeLine) (k : Φ (.d (.str (i ++ j))) M) : AR B K (uAdd K) (.d (.str i)) (.d (.str j)) M Φ := fun W μ H u w o s hu hw Q q => .inr (.inr (.inl (ar_addS hz k W μ H u w o s hu hw Q q)))
theorem ur_addT {l m : List D} (hz : l.length + m.length ≤ sizeLine) (k : Φ (.d (.tup (l ++ m))) M) : AR B K (uAdd K) (.d (.tup l)) (.d (.tup m)) M Φ := fun W μ H u w o s hu hw Q q => by
  obtain ⟨a, vs, rfl, h1, h2⟩ := hu
  obtain ⟨b, ws, rfl, h3, h4⟩ := hw
  have n1 : vs = [] ↔ l = [] := by rw [← List.length_eq_zero_iff, ← List.length_eq_zero_iff, h2.length]
  have n2 : ws = [] ↔ m = [] := by rw [← List.length_eq_zero_iff, ← List.length_eq_zero_iff, h4.length]
  refine .inr (.inr (.inr ⟨a, b, vs, ws, rfl, rfl, sqt_mono s.sub h1, sqt_mono s.sub h3, by rw [← h2.length, ← h4.length]; exact hz, fun e => ?_, fun _ e => ?_, fun _ _ p hp => ?_⟩))
  · rw [n1.mp e, List.nil_append] at k
    exact q _ _ _ _ _ _ k (.refl o s) ⟨b, ws, rfl, h3, h4⟩
  · rw [n2.mp e, List.append_nil] at k
    exact q _ _ _ _ _ _ k (.refl o s) ⟨a, vs, rfl, h1, h2⟩
  · have g := go_new (u := .tup (vs ++ ws)) o s hp
    exact q _ _ _ _ _ _ k g ⟨p, _, rfl, .inl (.inl upd_same), (h2.append h4).mono g.wext⟩
/-! ### * -/
theorem ur_mulI {i j : Int} (hc : CMul i j) (k : Φ (.d (.int (i * j))) M) : AR B K (uMul K) (.d (.int i)) (.d (.int j)) M Φ := fun W μ H u w o s hu hw Q q => .inl (ar_i hc k W μ H u w o s hu hw Q q)
theorem RDs.rep {W : Hp} {l : List D} {vs : List V} (h : RDs K W l vs) : ∀ n : Nat, RDs K W (List.replicate n l).flatten (List.replicate n vs).flatten
  | 0 => rfl
  | n + 1 => by
    rw [List.replicate_succ, List.replicate_succ, List.flatten_cons, List.flatten_cons]
    exact h.append (RDs.rep h n)
theorem ur_mulL {l : List D} {j : Int} (h : SL M x l) (h1 : -(2 ^ 63) ≤ j) (h2 : j < 2 ^ 63) (hz : l.length * j.toNat ≤ sizeLine) (k : Φ (.d (.lst (List.replicate j.toNat l).flatten)) M) : AR B K (uMul K) x (.d (.int j)) M Φ := fun W μ H u w o s hu hw Q q => by
  obtain ⟨a, vs, rfl, ha, hv⟩ := h.run s hu
  cases hw
  refine .inr (.inl ⟨a, j, vs, rfl, rfl, ha, h1, h2, by rw [← hv.length]; exact hz, fun p hp => ?_⟩)
  have g := go_new (u := .lst (List.replicate j.toNat vs).flatten) o s hp
  exact q _ _ _ _ _ _ k g ⟨p, _, rfl, upd_same, (hv.rep _).mono g.wext⟩
/-- a list that will change -/
theorem ur_mulM {l : List D} {j : Int} (h : SL M x l) (h1 : -(2 ^ 63) ≤ j) (h2 : j < 2 ^ 63) (hz : l.length * j.toNat ≤ sizeLine) (k : Φ (.m M.length) (M ++ [.lst (List.replicate j.toNat l).flatten])) : AR B K (uMul K) x (.d (.int j)) M Φ := fun W μ H u w o s hu hw Q q => by
  obtain ⟨a, vs, rfl, ha, hv⟩ := h.run s hu
  cases hw
  refine .inr (.inl ⟨a, j, vs, rfl, rfl, ha, h1, h2, by rw [← hv.length]; exact hz, fun p hp => ?_⟩)
  have g := go_mut (u := .lst (List.replicate j.toNat vs).flatten) (mo := .lst (List.replicate j.toNat l).flatten) o s hp ⟨_, upd_same, hv.rep _⟩
  refine q _ _ _ _ _ _ k g ⟨p, ?_, rfl⟩
  rw [← s.len, List.getElem?_append_right (Nat.le_refl _), Nat.sub_self]
  rfl
/-! ### == != -/
theorem ur_eqI {i j : Int} (k : Φ (.d (.bl (decide (i = j)))) M) : AR B K (uEq K) (.d (.int i)) (.d (.int j)) M Φ := fun W μ H u w o s hu hw Q q => .inl (ar_eqI k W μ H u w o s hu hw Q q)
theorem ur_neI {i j : Int} (k : Φ (.d (.bl (!decide (i = j)))) M) : AR B K (uNe K) (.d (.int i)) (.d (.int j)) M Φ := fun W μ H u w o s hu hw Q q => .inl (ar_neI k W μ H u w o s hu hw Q q)
theorem ur_eqS {i j : Str} (k : Φ (.d (.bl (decide (i = j)))) M) : AR B K (uEq K) (.d (.str i)) (.d (.str j)) M Φ := fun W μ H u w o s hu hw Q q => .inl (ar_eqS k W μ H u w o s hu hw Q q)
theorem ur_neS {i j : Str} (k : Φ (.d (.bl (!decide (i = j)))) M) : AR B K (uNe K) (.d (.str i)) (.d (.str j)) M Φ := fun W μ H u w o s hu hw Q q => .inl (ar_neS k W μ H u w o s hu hw Q q)
theorem ur_eqB {i j : Bool} (k : Φ (.d (.bl (decide (i = j)))) M) : AR B K (uEq K) (.d (.bl i)) (.d (.bl j)) M Φ := fun W μ H u w o s hu hw Q q => .inl (ar_eqB k W μ H u w o s hu hw Q q)
theorem ur_neB {i j : Bool} (k : Φ (.d (.bl (!decide (i = j)))) M) : AR B K (uNe K) (.d (.bl i)) (.d (.bl j)) M Φ := fun W μ H u w o s hu hw Q q => .inl (ar_neB k W μ H u w o s hu hw Q q)
theorem ur_eqP {p q : PyData} (hx : PV M x p) (hy : PV M y q) (h1 : SeqAt.shaped p = true) (h2 : SeqAt.shaped q = true) (k : Φ (.d (.bl (PyData.eqv p q))) M) : AR B K (uEq K) x y M Φ := fun W μ H u w o s hu hw Q qq => .inr (ar_eqD hx hy h1 h2 k W μ H u w o s hu hw Q qq)
theorem ur_neP {p q : PyData} (hx : PV M x p) (hy : PV M y q) (h1 : SeqAt.shaped p = true) (h2 : SeqAt.shaped q = true) (k : Φ (.d (.bl (!PyData.eqv p q))) M) : AR B K (uNe K) x y M Φ := fun W μ H u w o s hu hw Q qq => .inr (ar_neD hx hy h1 h2 k W μ H u w o s hu hw Q qq)
/-! ### in, len, isinstance -/
theorem inV_ints (i : Int) : ∀ ns : List Int, inV (.int i) (ns.map V.int) = decide (i ∈ ns)
  | [] => rfl
  | n :: ns => by
    have ih := inV_ints i ns
    unfold inV at ih ⊢
    rw [List.map_cons, List.any_cons, ih]
    show (eqV (.int n) (.int i) || _) = _
    have e : eqV (.int n) (.int i) = decide (i = n) := by
      show (n == i) = _
      rw [Bool.eq_iff_iff, beq_iff_eq, decide_eq_true_iff]
      exact ⟨Eq.symm, Eq.symm⟩
    rw [e]
    by_cases h : i = n <;> simp [h, List.mem_cons]
theorem ur_inI {i : Int} {ns : List Int} {neg : Bool} (h : STV M y (ns.map D.int)) (k : Φ (.d (.bl (if neg then !decide (i ∈ ns) else decide (i ∈ ns)))) M) : AR B K (rIn K neg) (.d (.int i)) y M Φ := fun W μ H u w o s hu hw Q q => by
  obtain ⟨a, vs, rfl, h1, h2⟩ := h.run s hw
  cases hu
  have e := RDs.ints h2
  subst e
  refine ⟨a, _, rfl, h1, rfl, by simp [flatV], ?_⟩
  rw [inV_ints]
  exact q _ _ _ _ _ _ k (.refl o s) rfl
theorem uc_len {l : List D} (h : STV M x l) (k : Φ (.d (.int (l.length : Int))) M) : AC B K (uLen K) [x] M Φ := fun W μ H us o s r Q q => by
  obtain ⟨v, rfl, r'⟩ := ra_one r
  obtain ⟨a, vs, rfl, h1, h2⟩ := h.run s r'
  exact .inl ⟨a, vs, rfl, h1, by rw [← h2.length]; exact q _ _ _ _ _ _ k (.refl o s) rfl⟩
theorem uc_lenS {z : Str} (hz : z.length ≤ sizeLine) (k : Φ (.d (.int (z.length : Int))) M) : AC B K (uLen K) [.d (.str z)] M Φ := fun W μ H us o s r Q q => by
  obtain ⟨v, rfl, r'⟩ := ra_one r
  cases r'
  exact .inr ⟨z, rfl, hz, q _ _ _ _ _ _ k (.refl o s) rfl⟩
/-- a lambda as data: its function object and its code object are known -/
def lamD (f c' : Addr) (F : Lm.LF) : D := .clo f [(f, Lm.LamO f F), (c', LamX.CodeO c' F.qual)]
/-- what isinstance can be asked of -/
def TyL (K : PySem.W.Frag) : D → Prop
  | .clo a aux => ∃ F, (a, Lm.LamO a F) ∈ aux
  | d => TyK K d
theorem tyl_lam {f c' : Addr} {F : Lm.LF} : TyL K (lamD f c' F) := ⟨F, List.mem_cons_self⟩
theorem uc_isiB {d : D} {n : String} {b : Bool} (hk : TyL K d) (hb : PySem.W.kitOne K (tyD d) (.type n) = some b) (k : Φ (.d (.bl b)) M) : AC B K (uIsi K) [.d d, .d (.ty n)] M Φ := fun W μ H us o s r Q q => by
  cases d with
  | clo a aux =>
    obtain ⟨F, hF⟩ := hk
    obtain ⟨v, w, rfl, ⟨rfl, hv⟩, r2⟩ := ra_two r
    cases r2
    exact .inr ⟨a, F, _, .type n, b, rfl, .ty n, s.sub _ _ (hv _ hF), hb, q _ _ _ _ _ _ k (.refl o s) rfl⟩
  | _ => exact .inl (.inl (ac_isiB (K := K) (by exact hk) hb k W μ H us o s r Q q))
theorem uc_isiC {d : D} {C : Addr} {b : Bool} (hk : TyL K d) (hb : PySem.W.kitOne K (tyD d) (.ref C) = some b) (k : Φ (.d (.bl b)) M) : AC B K (uIsi K) [.d d, .d (.adr C)] M Φ := fun W μ H us o s r Q q => by
  cases d with
  | clo a aux =>
    obtain ⟨F, hF⟩ := hk
    obtain ⟨v, w, rfl, ⟨rfl, hv⟩, r2⟩ := ra_two r
    cases r2
    exact .inr ⟨a, F, _, .ref C, b, rfl, .own C, s.sub _ _ (hv _ hF), hb, q _ _ _ _ _ _ k (.refl o s) rfl⟩
  | _ => exact .inl (.inl (ac_isiC (K := K) (by exact hk) hb k W μ H us o s r Q q))
/-- of a mutable list -/
theorem uc_isiM {k : Nat} {l : List D} {n : String} {b : Bool} (hm : M[k]? = some (.lst l)) (hb : PySem.W.kitOne K (.type "list") (.type n) = some b) (kk : Φ (.d (.bl b)) M) : AC B K (uIsi K) [.m k, .d (.ty n)] M Φ := fun W μ H us o s r Q q => by
  obtain ⟨v, w, rfl, ⟨a, ha, rfl⟩, r2⟩ := ra_two r
  cases r2
  obtain ⟨vs, h1, h2⟩ := s.ob k a _ ha hm
  exact .inl (.inl ⟨_, _, .type "list", .type n, b, rfl, .ty n, .base (.lst h1), hb, q _ _ _ _ _ _ kk (.refl o s) rfl⟩)
theorem ae_lenSetT (h : AE B K te σ M fun x M1 => ∃ ns : List Int, x = .d (.tup (ns.map D.int)) ∧ ns.length ≤ 1000 ∧ ∀ out : List Int, out.Nodup → (∀ k, k ∈ out ↔ k ∈ ns) → Φ (.d (.int (out.length : Nat))) M1) : AE B K (tLenSetT K te) σ M Φ := fun W μ H τ o s e Q q =>
  h W μ H τ o s e _ fun x M1 W1 μ1 H1 v ⟨ns, e1, hl, p⟩ f1 r1 => by
    subst e1
    obtain ⟨a, vs, rfl, h1, h2⟩ := r1
    have e := RDs.ints h2
    subst e
    exact ⟨a, ns, rfl, sqt_mono f1.sim.sub h1, hl, fun out nd hm => q _ _ _ _ _ _ (p out nd hm) f1 rfl⟩
/-! ### list(range(..)) -/
theorem ae_listRg1 (h : AE B K te σ M fun x M1 => ∃ n : Int, x = .d (.int n) ∧ 0 ≤ n ∧ n ≤ 16777216 ∧ Φ (.m M1.length) (M1 ++ [.lst (rngD 0 n.toNat)])) : AE B K (tLstRg (tRg1 te)) σ M Φ := fun W μ H τ o s e Q q =>
  h W μ H τ o s e _ fun x M1 W1 μ1 H1 v ⟨n, e1, h0, h1, p⟩ f1 r1 => by
    subst e1; cases r1
    refine ⟨n, rfl, RgOk.of_le (Int.le_refl 0) h1 (by omega) h0, fun a ha => ?_⟩
    have rr : RDs K W1 (rngD 0 n.toNat) (rgV 0 n) := by
      unfold rngD rgV
      rw [Int.sub_zero]
      have : ∀ m : List Nat, RDs K W1 (m.map fun (i : Nat) => D.int (0 + (i : Int))) (m.map fun i => V.int (0 + (i : Nat))) := fun m => by
        induction m with
        | nil => rfl
        | cons a m ih => exact ⟨_, _, rfl, rfl, ih⟩
      exact this _
    have g := go_mut (u := .lst (rgV 0 n)) (mo := .lst (rngD 0 n.toNat)) f1.ok f1.sim ha ⟨_, upd_same, rr⟩
    refine q _ _ _ _ _ _ p (f1.trans g) ⟨a, ?_, rfl⟩
    rw [← f1.sim.len, List.getElem?_append_right (Nat.le_refl _), Nat.sub_self]
    rfl
/-! ### all([..]), sorted([..]) of ints -/
theorem RDs.bools {W : Hp} : ∀ {bs : List Bool} {vs : List V}, RDs K W (bs.map D.bl) vs → vs = bs.map V.bl
  | [], _, h => h
  | n :: ns, _, ⟨v, r, e1, h, t⟩ => by subst e1; cases h; rw [RDs.bools t]; rfl
theorem uc_all {bs : List Bool} (h : SV M x (bs.map D.bl)) (k : Φ (.d (.bl (bs.all id))) M) : AC B K (rAll K) [x] M Φ := fun W μ H us o s r Q q => by
  obtain ⟨v, rfl, r'⟩ := ra_one r
  obtain ⟨a, vs, rfl, h1, h2⟩ := h.run s r'
  have e := RDs.bools h2
  subst e
  exact ⟨a, bs, rfl, h1, q _ _ _ _ _ _ k (.refl o s) rfl⟩
theorem uc_sortedM {ns : List Int} (h : SV M x (ns.map D.int)) (hz : ns.length < 64) (k : ∀ ns' : List Int, ns'.Perm ns → ns'.Pairwise (· ≤ ·) → Φ (.m M.length) (M ++ [.lst (ns'.map D.int)])) : AC B K (rSorted K) [x] M Φ := fun W μ H us o s r Q q => by
  obtain ⟨v, rfl, r'⟩ := ra_one r
  obtain ⟨a, vs, rfl, h1, h2⟩ := h.run s r'
  have e := RDs.ints h2
  subst e
  refine ⟨a, ns, rfl, h1, hz, fun ns' p hp hs ha => ?_⟩
  have g := go_mut (u := .lst (ns'.map V.int)) (mo := .lst (ns'.map D.int)) o s ha ⟨_, upd_same, RDs.of_ints ns'⟩
  refine q _ _ _ _ _ _ (k ns' hp hs) g ⟨p, ?_, rfl⟩
  rw [← s.len, List.getElem?_append_right (Nat.le_refl _), Nat.sub_self]
  rfl
theorem uc_sorted {ns : List Int} (h : SV M x (ns.map D.int)) (hz : ns.length < 64) (k : ∀ ns' : List Int, ns'.Perm ns → ns'.Pairwise (· ≤ ·) → Φ (.d (.lst (ns'.map D.int))) M) : AC B K (rSorted K) [x] M Φ := fun W μ H us o s r Q q => by
  obtain ⟨v, rfl, r'⟩ := ra_one r
  obtain ⟨a, vs, rfl, h1, h2⟩ := h.run s r'
  have e := RDs.ints h2
  subst e
  refine ⟨a, ns, rfl, h1, hz, fun ns' p hp hs ha => ?_⟩
  have g := go_new (u := .lst (ns'.map V.int)) o s ha
  exact q _ _ _ _ _ _ (k ns' hp hs) g ⟨p, _, rfl, upd_same, (RDs.of_ints ns')⟩
/-! ### what a list is told to do -/
theorem ra_lst {W H : Hp} {μ : List Addr} {k : Nat} {l : List D} {v : V} (s : Sim K W μ M H) (h : M[k]? = some (.lst l)) (r : RA K W μ (.m k) v) : ∃ a vs, v = .ref a ∧ μ[k]? = some a ∧ H a = some (.lst vs) ∧ RDs K W l vs := by
  obtain ⟨a, ha, rfl⟩ := r
  obtain ⟨vs, h1, h2⟩ := s.ob k a _ ha h
  exact ⟨a, vs, rfl, ha, h1, h2⟩
theorem ae_append (h : AE B K to σ M fun x M1 => ∃ k l0, x = .m k ∧ M1[k]? = some (.lst l0) ∧ AA B K t σ M1 fun ys M2 => ∃ y l, ys = [.d y] ∧ M2[k]? = some (.lst l) ∧ l.length < sizeLine ∧ Φ (.d .non) (M2.set k (.lst (l ++ [y])))) : AE B K (tBM K "list" rAppend to t) σ M Φ := fun W μ H τ o s e Q q =>
  h W μ H τ o s e _ fun x M1 W1 μ1 H1 v ⟨k, l0, e1, e2, p⟩ f1 r1 => by
    subst e1
    obtain ⟨a, vs, rfl, ha, h1, h2⟩ := ra_lst f1.sim e2 r1
    refine ⟨.inl ⟨rfl, vs, SqL.of h1⟩, p W1 μ1 H1 τ f1.ok f1.sim (f1.re e) _ fun ys M2 W2 μ2 H2 ws ⟨y, l, e3, e4, hz, p2⟩ f2 r2 => ?_⟩
    subst e3
    obtain ⟨w, rfl, rw_⟩ := ra_one r2
    obtain ⟨a', vs', ea, ha', h3, h4⟩ := ra_lst f2.sim e4 (f2.ra r1)
    cases ea
    refine ⟨a, vs', w, rfl, rfl, h3, by rw [← h4.length]; exact hz, ?_⟩
    have g := go_set (mo := .lst (l ++ [y])) (u := .lst (vs' ++ [w])) f2.ok f2.sim ha' ⟨_, upd_same, h4.append (RDs.one rw_)⟩
    exact q _ _ _ _ _ _ p2 ((f1.trans f2).trans g) rfl
theorem ae_extend (h : AE B K to σ M fun x M1 => ∃ k l0, x = .m k ∧ M1[k]? = some (.lst l0) ∧ AA B K t σ M1 fun ys M2 => ∃ y l m, ys = [y] ∧ M2[k]? = some (.lst l) ∧ SL M2 y m ∧ l.length + m.length ≤ sizeLine ∧ Φ (.d .non) (M2.set k (.lst (l ++ m)))) : AE B K (tBM K "list" rExtend to t) σ M Φ := fun W μ H τ o s e Q q =>
  h W μ H τ o s e _ fun x M1 W1 μ1 H1 v ⟨k, l0, e1, e2, p⟩ f1 r1 => by
    subst e1
    obtain ⟨a, vs, rfl, ha, h1, h2⟩ := ra_lst f1.sim e2 r1
    refine ⟨.inl ⟨rfl, vs, SqL.of h1⟩, p W1 μ1 H1 τ f1.ok f1.sim (f1.re e) _ fun ys M2 W2 μ2 H2 ws ⟨y, l, m, e3, e4, e5, hz, p2⟩ f2 r2 => ?_⟩
    subst e3
    obtain ⟨w, rfl, rw_⟩ := ra_one r2
    obtain ⟨b, zs, rfl, hb, hb2⟩ := e5.run f2.sim rw_
    obtain ⟨a', vs', ea, ha', h3, h4⟩ := ra_lst f2.sim e4 (f2.ra r1)
    cases ea
    refine ⟨a, b, vs', zs, rfl, rfl, h3, hb, by rw [← h4.length, ← hb2.length]; exact hz, ?_⟩
    have g := go_set (mo := .lst (l ++ m)) (u := .lst (vs' ++ zs)) f2.ok f2.sim ha' ⟨_, upd_same, h4.append hb2⟩
    exact q _ _ _ _ _ _ p2 ((f1.trans f2).trans g) rfl
theorem RDs.dropLast {W : Hp} : ∀ {l : List D} {vs : List V}, RDs K W l vs → RDs K W l.dropLast vs.dropLast := fun {l vs} h => by
  rw [List.dropLast_eq_take, List.dropLast_eq_take, ← h.length]
  exact h.take _
theorem RDs.eraseIdx {W : Hp} {l : List D} {vs : List V} (h : RDs K W l vs) (i : Nat) : RDs K W (l.eraseIdx i) (vs.eraseIdx i) := by
  rw [List.eraseIdx_eq_take_drop_succ, List.eraseIdx_eq_take_drop_succ]
  exact (h.take i).append (h.drop (i + 1))
theorem RDs.rev {W : Hp} : ∀ {l : List D} {vs : List V}, RDs K W l vs → RDs K W l.reverse vs.reverse
  | [], _, h => by cases h; rfl
  | d :: l, _, ⟨v, r, e1, h, t⟩ => by
    subst e1
    rw [List.reverse_cons, List.reverse_cons]
    exact (RDs.rev t).append (RDs.one h)
theorem ae_pop (h : AE B K to σ M fun x M1 => ∃ k l y, x = .m k ∧ M1[k]? = some (.lst l) ∧ l[l.length - 1]? = some y ∧ Φ (.d y) (M1.set k (.lst l.dropLast))) : AE B K (tBM0 K "list" rPop to) σ M Φ := fun W μ H τ o s e Q q =>
  h W μ H τ o s e _ fun x M1 W1 μ1 H1 v ⟨k, l, y, e1, e2, e3, p⟩ f1 r1 => by
    subst e1
    obtain ⟨a, vs, rfl, ha, h1, h2⟩ := ra_lst f1.sim e2 r1
    obtain ⟨w, hw, rw_⟩ := h2.get e3
    refine ⟨.inl ⟨rfl, vs, SqL.of h1⟩, a, vs, w, rfl, rfl, h1, by rw [← h2.length]; exact hw, ?_⟩
    have g := go_set (mo := .lst l.dropLast) (u := .lst vs.dropLast) f1.ok f1.sim ha ⟨_, upd_same, h2.dropLast⟩
    exact q _ _ _ _ _ _ p (f1.trans g) (RD.mono g.wext rw_)
theorem ae_popAt (h : AE B K to σ M fun x M1 => ∃ k l0, x = .m k ∧ M1[k]? = some (.lst l0) ∧ AA B K t σ M1 fun ys M2 => ∃ (i : Int) (j : Nat) (l : List D) (y : D), ys = [.d (.int i)] ∧ M2[k]? = some (.lst l) ∧ -(2 ^ 63) ≤ i ∧ i < 2 ^ 63 ∧ seqIndex? i l.length = some j ∧ l[j]? = some y ∧ Φ (.d y) (M2.set k (.lst (l.eraseIdx j)))) : AE B K (tBM K "list" rPopAt to t) σ M Φ := fun W μ H τ o s e Q q =>
  h W μ H τ o s e _ fun x M1 W1 μ1 H1 v ⟨k, l0, e1, e2, p⟩ f1 r1 => by
    subst e1
    obtain ⟨a, vs, rfl, ha, h1, h2⟩ := ra_lst f1.sim e2 r1
    refine ⟨.inl ⟨rfl, vs, SqL.of h1⟩, p W1 μ1 H1 τ f1.ok f1.sim (f1.re e) _ fun ys M2 W2 μ2 H2 ws ⟨i, j, l, y, e3, e4, b1, b2, e5, e6, p2⟩ f2 r2 => ?_⟩
    subst e3
    obtain ⟨w, rfl, rw_⟩ := ra_one r2
    cases rw_
    obtain ⟨a', vs', ea, ha', h3, h4⟩ := ra_lst f2.sim e4 (f2.ra r1)
    cases ea
    obtain ⟨w, hw, rw_⟩ := h4.get e6
    refine ⟨a, vs', i, j, w, rfl, rfl, h3, b1, b2, by rw [← h4.length]; exact e5, hw, ?_⟩
    have g := go_set (mo := .lst (l.eraseIdx j)) (u := .lst (vs'.eraseIdx j)) f2.ok f2.sim ha' ⟨_, upd_same, h4.eraseIdx j⟩
    exact q _ _ _ _ _ _ p2 ((f1.trans f2).trans g) (RD.mono g.wext rw_)
theorem ae_reverse (h : AE B K to σ M fun x M1 => ∃ k l, x = .m k ∧ M1[k]? = some (.lst l) ∧ Φ (.d .non) (M1.set k (.lst l.reverse))) : AE B K (tBM0 K "list" rReverse to) σ M Φ := fun W μ H τ o s e Q q =>
  h W μ H τ o s e _ fun x M1 W1 μ1 H1 v ⟨k, l, e1, e2, p⟩ f1 r1 => by
    subst e1
    obtain ⟨a, vs, rfl, ha, h1, h2⟩ := ra_lst f1.sim e2 r1
    refine ⟨.inl ⟨rfl, vs, SqL.of h1⟩, a, vs, rfl, rfl, h1, ?_⟩
    have g := go_set (mo := .lst l.reverse) (u := .lst vs.reverse) f1.ok f1.sim ha ⟨_, upd_same, h2.rev⟩
    exact q _ _ _ _ _ _ p (f1.trans g) rfl
end
end Al

namespace Al
open PySem PyProof.Rows L2
variable [Al.TabList]
/-- of all that is at hand (written by place, all defaults, the keyword defaults that lack, written by name) those at these places -/
def pick (ix : List Nat) {α : Type} (us ds mz ws : List α) : List α := ix.filterMap fun i => (us ++ ds ++ mz ++ ws)[i]?
theorem pick_vals (ix : List Nat) {vs us : List V} : ∀ {L : List V} {L' : List Value}, Vals L L' → Vals (ix.filterMap fun i => L[i]?) (ix.filterMap fun i => L'[i]?) := fun {L L'} h => by
  induction ix with
  | nil => exact .nil
  | cons i ix ih =>
    rw [List.filterMap_cons, List.filterMap_cons]
    cases e : L[i]? with
    | none =>
      rw [h.none_of e]
      exact ih
    | some x =>
      obtain ⟨u, hu, r⟩ := h.get e
      rw [hu]
      exact .cons r ih
theorem pick_rel (ix : List Nat) {vs ds mz zs : List V} {us its mv ws : List Value} (a : Vals vs us) (b : Vals ds its) (c : Vals mz mv) (d : Vals zs ws) : Vals (pick ix vs ds mz zs) (pick ix us its mv ws) :=
  pick_vals (vs := []) (us := []) ix (((a.append b).append c).append d)
theorem pick_ras {K : PySem.W.Frag} {W : Hp} {μ : List Addr} (ix : List Nat) : ∀ {L : List AV} {L' : List V}, RAs K W μ L L' → RAs K W μ (ix.filterMap fun i => L[i]?) (ix.filterMap fun i => L'[i]?) := fun {L L'} h => by
  induction ix with
  | nil => exact ras_nil
  | cons i ix ih =>
    rw [List.filterMap_cons, List.filterMap_cons]
    cases e : L[i]? with
    | none =>
      have : L'[i]? = none := by
        rw [List.getElem?_eq_none_iff, ← h.length]
        exact List.getElem?_eq_none_iff.mp e
      rw [this]
      exact ih
    | some x =>
      obtain ⟨u, hu, r⟩ := h.get e
      rw [hu]
      exact ras_cons r ih
section
variable {B : Base} {K : PySem.W.Frag} {σ : AEnv} {M : List MO} {Φ : AV → List MO → Prop} {C : Addr} {asp : ASp} {E : XK} {Ψ : Exc → List MO → Prop}
theorem ae_makeP {n m : Nat} {ix : List Nat} {dvs mvs : List V} {dA mA : List AV} {t tk : TA} (mono : Mono asp) (qe : EFits B K Ψ E) (hd : ∀ W μ, RAs K W μ dA dvs) (hm : ∀ W μ, RAs K W μ mA mvs)
    (h : AA B K t σ M fun xs M1 => AA B K tk σ M1 fun ys M2 => xs.length = n ∧ ys.length = m ∧ Sent asp (pick ix (.m M2.length :: xs) dA mA ys) (M2 ++ [.ins C [] []]) (MadeOk C M2.length Φ) Ψ) : AE B K (tMakeK C n m (conc K asp) (fun vs zs => pick ix vs dvs mvs zs) E t tk) σ M Φ :=
  ae_makeL mono qe fun W μ H τ o s e Q q => h W μ H τ o s e Q fun xs M' W' μ' H' v p f r => q xs M' W' μ' H' v (fun W2 μ2 H2 τ2 o2 s2 e2 Q2 q2 => p W2 μ2 H2 τ2 o2 s2 e2 Q2 fun ys M3 W3 μ3 H3 v3 ⟨l1, l2, p3⟩ f3 r3 => q2 ys M3 W3 μ3 H3 v3
    ⟨l1, l2, _, fun W μ v vs ws h1 h2 h3 => pick_ras ix (RAs.append (RAs.append (RAs.append (ras_cons h1 h2) (hd W μ)) (hm W μ)) h3), p3⟩ f3 r3) f r
end
end Al

/-! a def, a method, a class by what they promise -/
namespace Al
open PySem PyProof.Rows L2 Gx
variable [Al.TabList]
/-- a way to call by names: so many by place, the names, and which of the given values each parameter gets -/
abbrev KwE := Nat × List Str × List Nat
def KwOk (K : PySem.W.Frag) (fd : FuncData) (ps : List Str) (e : KwE) : Prop := KBn K fd ps e.1 e.2.1 (fun us ws => pick e.2.2 us [] [] ws) (fun vs zs => pick e.2.2 vs [] [] zs)
/-- the def st stands by the name x -/
structure DefAt (K : PySem.W.Frag) (mg : Str → Option Value) (x : Str) (st : Stmt) (ps : List Str) (kws : List KwE := []) : Prop where
  ex : ∃ f fd, Fun K x x st f fd ∧ mg x = some (.ref f) ∧ Binds K fd ps [] ∧ ∀ e ∈ kws, KwOk K fd ps e
structure FnAt (P : Program) (w : World) (K : PySem.W.Frag) (mg : Str → Option Value) (base : Heap) (CX : CXT) (k : Nat) (x : Str) (ps : List Str) (asp : ASp) (kws : List KwE := []) : Prop where
  ex : ∃ f fd, FnOk P w K mg base CX k f fd ps (conc K asp) ∧ mg x = some (.ref f) ∧ PySem.W.keepIn K (.ref f) = true ∧ Binds K fd ps [] ∧ ∀ e ∈ kws, KwOk K fd ps e
structure MethDef (K : PySem.W.Frag) (C : Addr) (m qual : Str) (st : Stmt) (ps : List Str) (kws : List KwE := []) : Prop where
  ex : ∃ f fd, Fun K m qual st f fd ∧ Meth K C m f ∧ Binds K fd ps [] ∧ ∀ e ∈ kws, KwOk K fd ps e
structure MethAt (P : Program) (w : World) (K : PySem.W.Frag) (mg : Str → Option Value) (base : Heap) (CX : CXT) (k : Nat) (C : Addr) (m : Str) (ps : List Str) (asp : ASp) (kws : List KwE := []) : Prop where
  ex : ∃ f fd, FnOk P w K mg base CX k f fd ps (conc K asp) ∧ Meth K C m f ∧ Binds K fd ps [] ∧ ∀ e ∈ kws, KwOk K fd ps e
structure MkDef (K : PySem.W.Frag) (mg : Str → Option Value) (C : Addr) (x qual : Str) (st : Stmt) (ps : List Str) (kws : List KwE := []) : Prop where
  ex : ∃ f fd, Fun K "__init__" qual st f fd ∧ Mk K C f ∧ mg x = some (.ref C) ∧ Binds K fd ps [] ∧ ∀ e ∈ kws, KwOk K fd ps e
structure MkAt (P : Program) (w : World) (K : PySem.W.Frag) (mg : Str → Option Value) (base : Heap) (CX : CXT) (k : Nat) (C : Addr) (x : Str) (ps : List Str) (asp : ASp) (kws : List KwE := []) : Prop where
  ex : ∃ f fd, FnOk P w K mg base CX k f fd ps (conc K asp) ∧ Mk K C f ∧ mg x = some (.ref C) ∧ Binds K fd ps [] ∧ ∀ e ∈ kws, KwOk K fd ps e
section
variable {X : Cx} {CX : CXT} {k : Nat} {C : Addr} {x m : Str} {ps : List Str} {asp : ASp} {E : XK} {p pos apos : Pos} {e o : Expr} {es : List Expr} {t : TA} {ta : TE}
theorem pe_fn {K : PySem.W.Frag} {kws : List KwE} (G : FnAt X.prog X.w K X.mg X.base CX k x ps asp kws) (hr : Room k X.A) (hg : Gl X x) (hx : Passes CX X E) (ha : PA X (e :: es) t) (hdb : (x == ("__debug__" : Str)) = false := by decide)
    (he : starEach (e :: es) X.env = (false, eval e X.env) :: starEach es X.env := by rfl) (hpl : (backTo pos (starEach es X.env)).any (·.1) = false := by rfl) (hK : X.K = K := by rfl) : PE X (.Call (.Name x p) (e :: es) [] pos) (tCall (conc K asp) [] E t) := by
  subst hK
  obtain ⟨f, fd, F, hm, hk, hb, _⟩ := G.ex
  exact pe_call F hr hg hm hk hb .nil hx ha hdb he hpl
theorem pe_fnS {K : PySem.W.Frag} {W : WX} {kws : List KwE} (G : FnAt X.prog X.w K X.mg X.base (L2.CX X.prog X.w) k x ps asp kws) (tk : Takes X W) (hr : Room k X.A) (hg : Gl X x) (ha : PA X (e :: es) t) (hdb : (x == ("__debug__" : Str)) = false := by decide)
    (he : starEach (e :: es) X.env = (false, eval e X.env) :: starEach es X.env := by rfl) (hpl : (backTo pos (starEach es X.env)).any (·.1) = false := by rfl) (hK : X.K = K := by rfl) : PE X (.Call (.Name x p) (e :: es) [] pos) (tCallS (conc K asp) (WE W) t) := by
  subst hK
  obtain ⟨f, fd, F, hm, hk, hb, _⟩ := G.ex
  exact pe_callS F hr hg hm hk hb (fun σ => passAt tk σ) ha hdb he hpl
theorem pe_mt0 {K : PySem.W.Frag} {pl : Sem Bool} (he : PE X o ta) (c : Cls K C) {kws : List KwE} (G : MethAt X.prog X.w K X.mg X.base CX k C m ps asp kws) (hr : Room k X.A) (hx : Passes CX X E)
    (ht : eval (.Call (.Attribute o m apos) [] [] pos) X.env = (do
      let ov ← eval o X.env
      standAt apos.atName
      let (f, first) ← holding [ov] (getMethod ov m pl)
      callWith pos f first (backTo pos (starEach [] X.env)) (backToKw pos (keywordEach [] X.env))) := by rfl) (hK : X.K = K := by rfl) : PE X (.Call (.Attribute o m apos) [] [] pos) (tMeth C m (conc K asp) [] E ta tNil) := by
  subst hK
  obtain ⟨f, fd, F, hm, hb, _⟩ := G.ex
  exact pe_meth0 he c hm F hr hb .nil hx ht
theorem pe_mt {K : PySem.W.Frag} {pl : Sem Bool} (he : PE X o ta) (c : Cls K C) {kws : List KwE} (G : MethAt X.prog X.w K X.mg X.base CX k C m ps asp kws) (hr : Room k X.A) (hx : Passes CX X E) (ha : PA X (e :: es) t)
    (hst : starEach (e :: es) X.env = (false, eval e X.env) :: starEach es X.env := by rfl) (hpl : (backTo pos (starEach es X.env)).any (·.1) = false := by rfl)
    (ht : eval (.Call (.Attribute o m apos) (e :: es) [] pos) X.env = (do
      let ov ← eval o X.env
      standAt apos.atName
      let (f, first) ← holding [ov] (getMethod ov m pl)
      callWith pos f first (backTo pos (starEach (e :: es) X.env)) (backToKw pos (keywordEach [] X.env))) := by rfl) (hK : X.K = K := by rfl) : PE X (.Call (.Attribute o m apos) (e :: es) [] pos) (tMeth C m (conc K asp) [] E ta t) := by
  subst hK
  obtain ⟨f, fd, F, hm, hb, _⟩ := G.ex
  exact pe_meth he c hm F hr hb .nil hx ha hst hpl ht
theorem pe_mtS {K : PySem.W.Frag} {pl : Sem Bool} {W : WX} (he : PE X o ta) (c : Cls K C) {kws : List KwE} (G : MethAt X.prog X.w K X.mg X.base (L2.CX X.prog X.w) k C m ps asp kws) (tk : Takes X W) (hr : Room k X.A) (ha : PA X (e :: es) t)
    (hst : starEach (e :: es) X.env = (false, eval e X.env) :: starEach es X.env := by rfl) (hpl : (backTo pos (starEach es X.env)).any (·.1) = false := by rfl)
    (ht : eval (.Call (.Attribute o m apos) (e :: es) [] pos) X.env = (do
      let ov ← eval o X.env
      standAt apos.atName
      let (f, first) ← holding [ov] (getMethod ov m pl)
      callWith pos f first (backTo pos (starEach (e :: es) X.env)) (backToKw pos (keywordEach [] X.env))) := by rfl) (hK : X.K = K := by rfl) : PE X (.Call (.Attribute o m apos) (e :: es) [] pos) (tMethS C m (conc K asp) (WE W) ta t) := by
  subst hK
  obtain ⟨f, fd, F, hm, hb, _⟩ := G.ex
  exact pe_methS he c hm F hr hb (fun σ => passAt tk σ) ha hst hpl ht
theorem pe_mk {K : PySem.W.Frag} {kws : List KwE} (G : MkAt X.prog X.w K X.mg X.base CX k C x ps asp kws) (hr : Room (k + 1) X.A) (hg : Gl X x) (hx : Passes CX X E) (ha : PA X (e :: es) t) (hdb : (x == ("__debug__" : Str)) = false := by decide)
    (he : starEach (e :: es) X.env = (false, eval e X.env) :: starEach es X.env := by rfl) (hpl : (backTo pos (starEach es X.env)).any (·.1) = false := by rfl) (hK : X.K = K := by rfl) : PE X (.Call (.Name x p) (e :: es) [] pos) (tMake C (conc K asp) [] E t) := by
  subst hK
  obtain ⟨f, fd, F, M, hm, hb, _⟩ := G.ex
  exact pe_make M F hr hg hm hb .nil hx ha hdb he hpl
theorem pe_mkS {K : PySem.W.Frag} {W : WX} {kws : List KwE} (G : MkAt X.prog X.w K X.mg X.base (L2.CX X.prog X.w) k C x ps asp kws) (tk : Takes X W) (hr : Room (k + 1) X.A) (hg : Gl X x) (ha : PA X (e :: es) t) (hdb : (x == ("__debug__" : Str)) = false := by decide)
    (he : starEach (e :: es) X.env = (false, eval e X.env) :: starEach es X.env := by rfl) (hpl : (backTo pos (starEach es X.env)).any (·.1) = false := by rfl) (hK : X.K = K := by rfl) : PE X (.Call (.Name x p) (e :: es) [] pos) (tMakeS C (conc K asp) (WE W) t) := by
  subst hK
  obtain ⟨f, fd, F, M, hm, hb, _⟩ := G.ex
  exact pe_makeS M F hr hg hm hb (fun σ => passAt tk σ) ha hdb he hpl
theorem run_kw {pins : List (Addr × Obj)} {σ : L2.St} {H : Hp} {s : Shared} {Q : VK} {f : Addr} {fd : FuncData} {us ws : List Value} {vs zs : List V} {e : KwE} {sp : Sp} (F : FnOk X.prog X.w X.K X.mg X.base CX k f fd ps sp) (hr : Room k X.A) (hb : KwOk X.K fd ps e) (hx : Passes CX X E)
    (I : L2.Inv X pins σ H s) (r : Vals vs us) (rz : Vals zs ws) (l1 : vs.length = e.1) (l2 : zs.length = e.2.1.length) (h : sp (pick e.2.2 vs [] [] zs) H Q E) : wpAny (model X.prog X.w) X.A (call (.ref f) us (e.2.1.zip ws)) (EP X pins σ Q) X.xe s := by
  have r2 := hb.rel r rz
  refine wpAny_call (codeAny_mono (F.run X.A X.stack s H ⟨us, e.2.1.zip ws⟩ (pick e.2.2 us [] [] ws) (pick e.2.2 vs [] [] zs) Q E hr I.env0 (hb.to s us ws I.kIn (r.length.symm.trans l1) (rz.length.symm.trans l2)) r2 h) fun r s' hq => ?_)
  cases r with
  | error y => exact hx pins σ H s y s' I hq
  | ok fl =>
    cases fl with
    | ret u => exact I.after hq
    | next => exact False.elim hq
    | brk => exact False.elim hq
    | cont => exact False.elim hq
/-- f(k = v, ..) -/
def tCallW (sp : Sp) (e : KwE) (E : XK) (t tk : TA) : TE := fun σ H Q => t σ H fun vs H1 => tk σ H1 fun zs H2 => vs.length = e.1 ∧ zs.length = e.2.1.length ∧ sp (pick e.2.2 vs [] [] zs) H2 Q E
theorem pe_fnK {K : PySem.W.Frag} {kws : List KwE} {kk : List Keyword} {tk : TA} (e : KwE) (G : FnAt X.prog X.w K X.mg X.base CX k x ps asp kws) (he0 : e ∈ kws) (hr : Room k X.A) (hg : Gl X x) (hx : Passes CX X E) (hkw : PK X kk tk)
    (hall : (backToKw pos (keywordEach kk X.env)).all (·.1.isSome) = true := by rfl) (hks : (backToKw pos (keywordEach kk X.env)).filterMap (·.1) = e.2.1 := by rfl) (hdb : (x == ("__debug__" : Str)) = false := by decide)
    (hpl : ((backTo pos (starEach [] X.env)).any (·.1) || (backToKw pos (keywordEach kk X.env)).any (·.1.isNone)) = false := by rfl) (hK : X.K = K := by rfl) : PE X (.Call (.Name x p) [] kk pos) (tCallW (conc K asp) e E tNil tk) := by
  subst hK
  obtain ⟨f, fd, F, hm, hk, hb, hw⟩ := G.ex
  refine ⟨fun pins s σ H Q I h => ?_⟩
  refine wpAny_Call_Name_kw (ld_glob I hg hm ?_ hdb)
  refine PySem.W.callWith_KW0 (h₀ := X.base) I.ok.mod.kin hk hall ?_ hpl
  refine thn (hkw.run pos pins s σ H _ I h) fun ws s2 ⟨zs, H2, I2, rz, l1, l2, q2⟩ => ⟨I2.kIn, ?_⟩
  rw [hks]
  exact run_kw (us := []) (vs := []) F hr (hw e he0) hx I2 .nil rz l1 l2 q2
/-- o.m(k = v, ..) -/
def tMethW (C : Addr) (m : Str) (sp : Sp) (e : KwE) (E : XK) (ta : TE) (tk : TA) : TE := fun σ H Q => ta σ H fun x H1 => ∃ a dx fs, x = .ref a ∧ H1 a = some (.ins C dx fs) ∧ fs.lookup m = none ∧ tk σ H1 fun zs H2 => 1 = e.1 ∧ zs.length = e.2.1.length ∧ sp (pick e.2.2 [x] [] [] zs) H2 Q E
theorem pe_mtK {K : PySem.W.Frag} {kws : List KwE} {kk : List Keyword} {tk : TA} {pl : Sem Bool} (e : KwE) (he : PE X o ta) (c : Cls K C) (G : MethAt X.prog X.w K X.mg X.base CX k C m ps asp kws) (he0 : e ∈ kws) (hr : Room k X.A) (hx : Passes CX X E) (hkw : PK X kk tk)
    (hall : (backToKw pos (keywordEach kk X.env)).all (·.1.isSome) = true := by rfl) (hks : (backToKw pos (keywordEach kk X.env)).filterMap (·.1) = e.2.1 := by rfl)
    (hpl : ((backTo pos (starEach [] X.env)).any (·.1) || (backToKw pos (keywordEach kk X.env)).any (·.1.isNone)) = false := by rfl)
    (ht : eval (.Call (.Attribute o m apos) [] kk pos) X.env = (do
      let ov ← eval o X.env
      standAt apos.atName
      let (f, first) ← holding [ov] (getMethod ov m pl)
      callWith pos f first (backTo pos (starEach [] X.env)) (backToKw pos (keywordEach kk X.env))) := by rfl) (hK : X.K = K := by rfl) : PE X (.Call (.Attribute o m apos) [] kk pos) (tMethW C m (conc K asp) e E ta tk) := by
  subst hK
  obtain ⟨f, fd, F, hm, hb, hw⟩ := G.ex
  refine ⟨fun pins s σ H Q I h => ?_⟩
  refine PySem.W.methodCall_KW (pl := pl) (thn (he.run pins s σ H _ I h) fun u s1 ⟨x, H1, I1, rx, a, dx, fs, ex, ea, l, q⟩ => ?_) ht
  subst ex
  obtain rfl : u = Value.ref a := rx
  refine getmeth_ok I1 ea c hm l ?_
  refine PySem.W.callWith_KW0 (first := [.ref a]) (h₀ := X.base) I.ok.mod.kin hm.kp hall ?_ hpl
  refine thn (hkw.run pos pins s1 σ H1 _ I1 q) fun ws s2 ⟨zs, H2, I2, rz, l1, l2, q2⟩ => ⟨I2.kIn, ?_⟩
  rw [hks]
  exact run_kw (us := [.ref a]) (vs := [.ref a]) F hr (hw e he0) hx I2 (.cons rfl .nil) rz l1 l2 q2
/-- an own exception with an __init__ of its own, by the name x -/
structure XcAt (P : Program) (w : World) (K : PySem.W.Frag) (mg : Str → Option Value) (C : Addr) (x : Str) (fs : List Str) : Prop where
  gx : GexC K C
  mgC : mg x = some (.ref C)
  few : fs.length ≤ 1000
  ini : ∃ fI, PySem.W.findIn K (.ref C) "__init__" = some (some (.ref fI)) ∧ PySem.W.typeIn K (.ref fI) = some (.type "function") ∧ Inits P w K C fI fs
theorem ps_raiseX {W : WX} {fs : List Str} {pos2 : Pos} (T : XcAt X.prog X.w X.K X.mg C x fs) (hc : X.calm = true) (tk : Takes X W) (hr : Room 0 X.A) (hg : Gl X x) (ha : PA X (e :: es) t) (hdb : (x == ("__debug__" : Str)) = false := by decide)
    (he : starEach (e :: es) X.env = (false, eval e X.env) :: starEach es X.env := by rfl) (hpl : (backTo pos (starEach es X.env)).any (·.1) = false := by rfl) :
    PS X (.Raise (some (.Call (.Name x p) (e :: es) [] pos)) none pos2) (tRaiseG C fs W t) := by
  obtain ⟨fI, h1, h2, h3⟩ := T.ini
  exact ps_raise hc tk (pmk_gex T.gx h1 h2 h3 T.few hr hg T.mgC ha hdb he hpl)
theorem pi_or {tg : Expr} {wi wi' : TI} (h : PI X tg e wi) (h' : PI X tg e wi') : PI X tg e (fun σ H R => wi σ H R ∨ wi' σ H R) := ⟨fun pins s σ H R I q => q.elim (h.run pins s σ H R I) (h'.run pins s σ H R I)⟩
def iSeq (K : PySem.W.Frag) (te : TE) : TI := fun σ H R => iList K te σ H R ∨ iTup K te σ H R
theorem pi_seq {tg : Expr} (he : PE X e ta) : PI X tg e (iSeq X.K ta) := pi_or (pi_list he) (pi_tup he)
end
section
variable {P : Program} {w : World} {K : PySem.W.Frag} {mg : Str → Option Value} {base : Heap} {CX : CXT} {k : Nat} {C : Addr} {x m qual : Str} {st : Stmt} {ps N : List Str} {asp : ASp}
theorem FnAt.mono {j : Nat} (G : FnAt P w K mg base CX j x ps asp) : FnAt P w K mg base CX j x ps asp := G
/-- a def that raises nothing -/
theorem fnat {kws : List KwE} (D : DefAt K mg x st ps kws) (S : FnScope N ps (defScope st)) (len : ∀ xs M Φ Ψ, asp xs M Φ Ψ → xs.length = ps.length)
    (hbody : ∀ (f : Addr) (cdv : Value) (A : Around) (outer : List Env) (s : Shared) (H : Hp) (E : XK), Room k (A.deeper (envOfC x (defScope st) s.heap.objs.size f cdv)) →
      ∃ t, PSs (cxOf CX0 P w K mg base N x (defScope st) f cdv A outer s H E).nox (defBody st) t ∧ ∀ (B : Base) xs M Φ Ψ, B.μ0.length = M.length → asp xs M Φ Ψ → AS B K t (startA N xs) M (defEnds M.length Φ)) : FnAt P w K mg base CX0 (k + 1) x ps asp kws := by
  obtain ⟨f, fd, F, hm, hb⟩ := D.ex
  exact ⟨f, fd, fn_al F S len fun cdv A outer s H E hr => hbody f cdv A outer s H E hr, hm, F.kp, hb⟩
theorem mtat {kws : List KwE} (D : MethDef K C m qual st ps kws) (S : FnScope N ps (defScope st)) (len : ∀ xs M Φ Ψ, asp xs M Φ Ψ → xs.length = ps.length)
    (hbody : ∀ (f : Addr) (cdv : Value) (A : Around) (outer : List Env) (s : Shared) (H : Hp) (E : XK), Room k (A.deeper (envOfC qual (defScope st) s.heap.objs.size f cdv)) →
      ∃ t, PSs (cxOf CX0 P w K mg base N qual (defScope st) f cdv A outer s H E).nox (defBody st) t ∧ ∀ (B : Base) xs M Φ Ψ, B.μ0.length = M.length → asp xs M Φ Ψ → AS B K t (startA N xs) M (defEnds M.length Φ)) : MethAt P w K mg base CX0 (k + 1) C m ps asp kws := by
  obtain ⟨f, fd, F, hm, hb⟩ := D.ex
  exact ⟨f, fd, fn_al F S len fun cdv A outer s H E hr => hbody f cdv A outer s H E hr, hm, hb⟩
/-- a def that may raise -/
theorem fnatX {kws : List KwE} (D : DefAt K mg x st ps kws) (S : FnScope N ps (defScope st)) (len : ∀ xs M Φ Ψ, asp xs M Φ Ψ → xs.length = ps.length)
    (hbody : ∀ (f : Addr) (cdv : Value) (A : Around) (outer : List Env) (s : Shared) (H : Hp) (E : XK), Room k (A.deeper (envOfC x (defScope st) s.heap.objs.size f cdv)) →
      ∃ t, PSs (cxOf (L2.CX P w) P w K mg base N x (defScope st) f cdv A outer s H E) (defBody st) t ∧ ∀ (B : Base) xs M Φ Ψ, B.μ0.length = M.length → asp xs M Φ Ψ → EFits B K (XT M.length Ψ) E → AS B K t (startA N xs) M (defEnds M.length Φ)) : FnAt P w K mg base (L2.CX P w) (k + 1) x ps asp kws := by
  obtain ⟨f, fd, F, hm, hb⟩ := D.ex
  exact ⟨f, fd, fn_alX F S len fun cdv A outer s H E hr => hbody f cdv A outer s H E hr, hm, F.kp, hb⟩
theorem mtatX {kws : List KwE} (D : MethDef K C m qual st ps kws) (S : FnScope N ps (defScope st)) (len : ∀ xs M Φ Ψ, asp xs M Φ Ψ → xs.length = ps.length)
    (hbody : ∀ (f : Addr) (cdv : Value) (A : Around) (outer : List Env) (s : Shared) (H : Hp) (E : XK), Room k (A.deeper (envOfC qual (defScope st) s.heap.objs.size f cdv)) →
      ∃ t, PSs (cxOf (L2.CX P w) P w K mg base N qual (defScope st) f cdv A outer s H E) (defBody st) t ∧ ∀ (B : Base) xs M Φ Ψ, B.μ0.length = M.length → asp xs M Φ Ψ → EFits B K (XT M.length Ψ) E → AS B K t (startA N xs) M (defEnds M.length Φ)) : MethAt P w K mg base (L2.CX P w) (k + 1) C m ps asp kws := by
  obtain ⟨f, fd, F, hm, hb⟩ := D.ex
  exact ⟨f, fd, fn_alX F S len fun cdv A outer s H E hr => hbody f cdv A outer s H E hr, hm, hb⟩
theorem mkatX {kws : List KwE} (D : MkDef K mg C x qual st ps kws) (S : FnScope N ps (defScope st)) (len : ∀ xs M Φ Ψ, asp xs M Φ Ψ → xs.length = ps.length)
    (hbody : ∀ (f : Addr) (cdv : Value) (A : Around) (outer : List Env) (s : Shared) (H : Hp) (E : XK), Room k (A.deeper (envOfC qual (defScope st) s.heap.objs.size f cdv)) →
      ∃ t, PSs (cxOf (L2.CX P w) P w K mg base N qual (defScope st) f cdv A outer s H E) (defBody st) t ∧ ∀ (B : Base) xs M Φ Ψ, B.μ0.length = M.length → asp xs M Φ Ψ → EFits B K (XT M.length Ψ) E → AS B K t (startA N xs) M (defEnds M.length Φ)) : MkAt P w K mg base (L2.CX P w) (k + 1) C x ps asp kws := by
  obtain ⟨f, fd, F, M, hm, hb⟩ := D.ex
  exact ⟨f, fd, fn_alX F S len fun cdv A outer s H E hr => hbody f cdv A outer s H E hr, M, hm, hb⟩
end
section
variable {B : Base} {K : PySem.W.Frag} {σ : AEnv} {M : List MO} {te : TE} {Φ : List D → List MO → Prop}
theorem ai_seqL (h : AE B K te σ M fun x M1 => ∃ l, x = .d (.lst l) ∧ Φ l M1) : AI B K (iSeq K te) σ M Φ := fun W μ H τ o s e R q => .inl (ai_list h W μ H τ o s e R q)
theorem ai_seqS (h : AE B K te σ M fun x M1 => ∃ l, x = .d (.scr l) ∧ Φ l M1) : AI B K (iSeq K te) σ M Φ := fun W μ H τ o s e R q => .inl (ai_scr h W μ H τ o s e R q)
theorem ai_seqM {k : Nat} {l : List D} (h : AE B K te σ M fun x M1 => x = .m k ∧ M1[k]? = some (.lst l) ∧ Φ l M1) : AIP (fun M => M[k]? = some (.lst l)) B K (iSeq K te) σ M Φ := fun W μ H τ o s e R q => .inl (ai_mut h W μ H τ o s e R q)
theorem ai_seqT (h : AE B K te σ M fun x M1 => ∃ l, x = .d (.tup l) ∧ Φ l M1) : AI B K (iSeq K te) σ M Φ := fun W μ H τ o s e R q => .inr (ai_tup h W μ H τ o s e R q)
end
section
variable {B : Base} {K : PySem.W.Frag} {σ : AEnv} {M : List MO} {te : TE} {Φ : AV → List MO → Prop}
theorem ur_ixM {k : Nat} {i : Int} {l : List D} {d : D} (hm : M[k]? = some (.lst l)) (ha : atI l i = some d) (q : Φ (.d d) M) : AR B K (rIx K) (.m k) (.d (.int i)) M Φ := fun W μ H u w o s hu hw Q qq => .inl (ar_ixM hm ha q W μ H u w o s hu hw Q qq)
theorem ur_ixL {i : Int} {l : List D} {d : D} (ha : atI l i = some d) (q : Φ (.d d) M) : AR B K (rIx K) (.d (.lst l)) (.d (.int i)) M Φ := fun W μ H u w o s hu hw Q qq => .inl (ar_ixL ha q W μ H u w o s hu hw Q qq)
theorem ur_ixS {i : Int} {l : List D} {d : D} (ha : atI l i = some d) (q : Φ (.d d) M) : AR B K (rIx K) (.d (.scr l)) (.d (.int i)) M Φ := fun W μ H u w o s hu hw Q qq => .inl (ar_ixS ha q W μ H u w o s hu hw Q qq)
theorem ur_ixT {i : Int} {l : List D} {d : D} (ha : atI l i = some d) (q : Φ (.d d) M) : AR B K (rIx K) (.d (.tup l)) (.d (.int i)) M Φ := fun W μ H u w o s hu hw Q qq => .inr (.inl (ar_ixT ha q W μ H u w o s hu hw Q qq))
theorem as_augM {i : Nat} {C : Int → Int → Prop} {f : Int → Int → Int} {a : Int} {Φ : AEnds} (hx : σ[i]? = some (some (.d (.int a)))) (h : AE B K te σ M fun y M1 => ∃ b, y = .d (.int b) ∧ C a b ∧ Φ.nx (σ.set i (some (.d (.int (f a b))))) M1) : AS B K (tAug i te (rI C fun i j => .int (f i j))) σ M Φ := fun W μ H τ o s e E ff => by
  obtain ⟨v, h1, h2⟩ := e.2 i _ hx
  cases h2
  exact ⟨_, h1, h W μ H τ o s e _ fun y M1 W1 μ1 H1 w ⟨b, e1, hc, p⟩ f1 r1 => by
    subst e1; cases r1
    exact ⟨a, b, rfl, rfl, hc, ff.nx _ _ _ _ _ _ p f1 (RE.set (x := .d (.int (f a b))) (f1.re e) rfl i)⟩⟩
theorem as_asgN {i : Nat} {Φ : AEnds} (h : AE B K te σ M fun x M1 => Φ.nx (σ.set i (some x)) M1) : AS B K (tAsg te (gName i)) σ M Φ := as_asg (h.imp fun x M1 p => ag_name p)
end
section
variable (K : PySem.W.Frag) {X : Cx}
theorem k_add (hK : X.K = K := by rfl) : OpR X (binaryOp .Add) (uAdd K) := hK ▸ u_add
theorem k_mul (hK : X.K = K := by rfl) : OpR X (binaryOp .Mult) (uMul K) := hK ▸ u_mul
theorem k_eq (hu : X.A.units + 64 < cLine) (hK : X.K = K := by rfl) : OpR X (compareOp .Eq) (uEq K) := hK ▸ u_eq hu
theorem k_ne (hu : X.A.units + 64 < cLine) (hK : X.K = K := by rfl) : OpR X (compareOp .NotEq) (uNe K) := hK ▸ u_ne hu
theorem k_in (hK : X.K = K := by rfl) : OpR X (compareOp .In) (rIn K false) := hK ▸ op_in_seq
theorem k_notIn (hK : X.K = K := by rfl) : OpR X (compareOp .NotIn) (rIn K true) := hK ▸ op_notIn_seq
theorem k_len (hK : X.K = K := by rfl) : CallR X (.builtin "len") (uLen K) := hK ▸ u_len
theorem k_isi (hK : X.K = K := by rfl) : CallR X (.builtin "isinstance") (uIsi K) := hK ▸ u_isi
theorem k_all (hc : X.calm = true) (hK : X.K = K := by rfl) : CallR X (.builtin "all") (rAll K) := hK ▸ cr_all hc
theorem k_sorted (hK : X.K = K := by rfl) : CallR X (.builtin "sorted") (rSorted K) := hK ▸ cr_sorted
theorem k_ix (hK : X.K = K := by rfl) : IxR X (rIx K) := hK ▸ ix_seq
theorem k_sl (hK : X.K = K := by rfl) : SlR X (uSl K) := hK ▸ u_sl
def kListOf : List V → Hp → VK → Prop := fun xs H Q => ∃ p ys, xs = [.ref p] ∧ (SqL K H p ys ∨ SqT K H p ys) ∧ ∀ l, H l = none → Q (.ref l) (upd H l (.lst ys))
def kTupOf : List V → Hp → VK → Prop := fun xs H Q => ∃ p ys, xs = [.ref p] ∧ ((SqL K H p ys ∧ ∀ l, H l = none → Q (.ref l) (upd H l (.tup ys))) ∨ (SqT K H p ys ∧ Q (.ref p) H))
theorem k_listOf (hK : X.K = K := by rfl) : CallR X (.type "list") (kListOf K) := hK ▸ call_list_of
theorem k_tupOf (hK : X.K = K := by rfl) : CallR X (.type "tuple") (kTupOf K) := hK ▸ call_tuple_of
theorem pi_seqK {tg e : Expr} {ta : TE} (he : PE X e ta) (hK : X.K = K := by rfl) : PI X tg e (iSeq K ta) := hK ▸ pi_seq he
theorem pe_fldK {e : Expr} {f : Str} {pos : Pos} {ta : TE} (he : PE X e ta) (hb : attributeBase e f X.env (eval e X.env) = eval e X.env) (hK : X.K = K := by rfl) : PE X (.Attribute e f pos) (tFld K ta f) := hK ▸ pe_fld he hb
end
section
variable {B : Base} {K : PySem.W.Frag} {M : List MO} {x : AV} {Φ : AV → List MO → Prop}
theorem uc_tuple {l : List D} (h : STV M x l) (k : Φ (.d (.tup l)) M) : AC B K (kTupOf K) [x] M Φ := by
  cases h with
  | lst l => exact ac_tuple (.lst l) k
  | scr l => exact ac_tuple (.scr l) k
  | mm h => exact ac_tuple (.mm h) k
  | tup l =>
    refine fun W μ H us o s r Q q => ?_
    obtain ⟨v, rfl, r'⟩ := ra_one r
    obtain ⟨a, vs, rfl, h1, h2⟩ := r'
    exact ⟨a, vs, rfl, .inr ⟨sqt_mono s.sub h1, q _ _ _ _ _ _ k (.refl o s) ⟨a, vs, rfl, h1, h2⟩⟩⟩
theorem uc_listM {l : List D} (h : SV M x l) (k : Φ (.m M.length) (M ++ [.lst l])) : AC B K (kListOf K) [x] M Φ := ac_listM h k
theorem uc_list {l : List D} (h : SV M x l) (k : Φ (.d (.lst l)) M) : AC B K (kListOf K) [x] M Φ := ac_list h k
end
/-- the names of the built-ins, none of which the module hides -/
structure Bt (mg : Str → Option Value) : Prop where
  len : mg "len" = none
  abs : mg "abs" = none
  isinstance : mg "isinstance" = none
  range : mg "range" = none
  min : mg "min" = none
  max : mg "max" = none
  list : mg "list" = none
  tuple : mg "tuple" = none
  str : mg "str" = none
  int : mg "int" = none
  bool : mg "bool" = none
  repr : mg "repr" = none
  set : mg "set" = none
  all : mg "all" = none
  sorted : mg "sorted" = none
  enumerate : mg "enumerate" = none
  zip : mg "zip" = none
  dict : mg "dict" = none
  ValueError : mg "ValueError" = none
  TypeError : mg "TypeError" = none
  IndexError : mg "IndexError" = none
  any : mg "any" = none
  sum : mg "sum" = none
  reversed : mg "reversed" = none
  KeyError : mg "KeyError" = none
  LookupError : mg "LookupError" = none
  ArithmeticError : mg "ArithmeticError" = none
  OverflowError : mg "OverflowError" = none
  RuntimeError : mg "RuntimeError" = none
  ZeroDivisionError : mg "ZeroDivisionError" = none
  StopIteration : mg "StopIteration" = none
end Al

/-! comprehensions that change nothing -/
namespace Al
open PySem PyProof.Rows L2 Gx
variable [Al.TabList]
section
variable {B : Base} {K : PySem.W.Frag} {σ : AEnv} {M : List MO} {te : TE} {Φ : AV → List MO → Prop}
theorem AIP.imp {P : List MO → Prop} {wi : TI} {Φ Φ' : List D → List MO → Prop} (h : AIP P B K wi σ M Φ) (f : ∀ l M', Φ l M' → Φ' l M') : AIP P B K wi σ M Φ' := fun W μ H τ o s e R q =>
  h W μ H τ o s e R fun items M' W' μ' H' J p g ok => q items M' W' μ' H' J (f _ _ p) g ok
theorem take_succ_map {α β : Type} {l : List α} {i : Nat} {d : α} (F : α → β) (h : l[i]? = some d) : (l.take (i + 1)).map F = (l.take i).map F ++ [F d] := by
  rw [List.take_add_one, h]
  simp
/-- [te for g in wi]: each item by F -/
theorem ae_mapP {P : List MO → Prop} {wi : TI} {g : TG} {vs : List Nat} {l : List D} (F : D → D) (hM : M.all (MO.below M.length) = true) (gk : GK g vs) (hz : l.length ≤ sizeLine) (hP : ∀ acc, P (M ++ [.lst acc]))
    (h : AIP P B K wi σ M fun items M1 => M1 = M ∧ items = l ∧ Φ (.d (.lst (l.map F))) M)
    (ht : ∀ d ∈ l, ∀ acc, AG B K g (.d d) (wipeA σ vs) (M ++ [.lst acc]) fun σ2 M2 => AE B K te σ2 M2 fun y M4 => y = .d (F d) ∧ M4 = M ++ [.lst acc]) : AE B K (tLc wi g tYes te vs) σ M Φ := by
  refine ae_lcP (n := M.length) (fun i acc M' => M' = M ∧ acc = (l.take i).map F) (fun i acc M' ⟨e, _⟩ => by subst e; exact ⟨rfl, hM⟩) gk (fun i acc M' ⟨e, _⟩ => by subst e; exact hP acc) (h.imp fun items M1 ⟨e1, e2, p⟩ => ?_)
  subst e1; subst e2
  refine ⟨⟨rfl, rfl⟩, fun i d acc M' hd ⟨e1, e2⟩ => ?_, fun acc M' ⟨e1, e2⟩ => ?_⟩
  · subst e1
    refine fun W μ H τ v o s e r Q q => ht d (List.mem_of_getElem? hd) acc W μ H τ v o s e r Q fun σ2 M2 W2 μ2 H2 τ2 p2 f2 e3 => q σ2 M2 W2 μ2 H2 τ2 ?_ f2 e3
    refine at_yes ⟨fun _ => p2.imp fun y M4 ⟨ey, eM⟩ => ⟨F d, M', ey, eM, ?_, rfl, ?_⟩, (fun z => nomatch z)⟩
    · rw [e2, List.length_map, List.length_take]
      have := (List.getElem?_eq_some_iff.mp hd).1
      omega
    · rw [e2, take_succ_map F hd]
  · subst e1
    rw [List.take_length] at e2
    rw [e2]
    exact p
theorem ae_map {wi : TI} {g : TG} {vs : List Nat} {l : List D} (F : D → D) (hM : M.all (MO.below M.length) = true) (gk : GK g vs) (hz : l.length ≤ sizeLine)
    (h : AI B K wi σ M fun items M1 => M1 = M ∧ items = l ∧ Φ (.d (.lst (l.map F))) M)
    (ht : ∀ d ∈ l, ∀ acc, AG B K g (.d d) (wipeA σ vs) (M ++ [.lst acc]) fun σ2 M2 => AE B K te σ2 M2 fun y M4 => y = .d (F d) ∧ M4 = M ++ [.lst acc]) : AE B K (tLc wi g tYes te vs) σ M Φ := ae_mapP F hM gk hz (fun _ => True.intro) h ht

/-- [te for g in wi if tt]: the items by F where p tells so -/
theorem ae_fmapP {P : List MO → Prop} {wi : TI} {g : TG} {tt : TT} {vs : List Nat} {l : List D} (F : D → D) (pp : D → Bool) (hM : M.all (MO.below M.length) = true) (gk : GK g vs) (hz : l.length ≤ sizeLine) (hP : ∀ acc, P (M ++ [.lst acc]))
    (h : AIP P B K wi σ M fun items M1 => M1 = M ∧ items = l ∧ Φ (.d (.lst ((l.filter pp).map F))) M)
    (ht : ∀ d ∈ l, ∀ acc, AG B K g (.d d) (wipeA σ vs) (M ++ [.lst acc]) fun σ2 M2 => AT B K tt σ2 M2 fun b M3 => b = pp d ∧ (b = false → M3 = M ++ [.lst acc]) ∧ (b = true → AE B K te σ2 M3 fun y M4 => y = .d (F d) ∧ M4 = M ++ [.lst acc])) : AE B K (tLc wi g tt te vs) σ M Φ := by
  refine ae_lcP (n := M.length) (fun i acc M' => M' = M ∧ acc = ((l.take i).filter pp).map F) (fun i acc M' ⟨e, _⟩ => by subst e; exact ⟨rfl, hM⟩) gk (fun i acc M' ⟨e, _⟩ => by subst e; exact hP acc) (h.imp fun items M1 ⟨e1, e2, p⟩ => ?_)
  subst e1; subst e2
  refine ⟨⟨rfl, rfl⟩, fun i d acc M' hd ⟨e1, e2⟩ => ?_, fun acc M' ⟨e1, e2⟩ => ?_⟩
  · subst e1
    have hs : (items.take (i + 1)).filter pp = (items.take i).filter pp ++ (if pp d = true then [d] else []) := by
      rw [List.take_add_one, hd]
      simp [List.filter_append, List.filter_cons]
    refine fun W μ H τ v o s e r Q q => ht d (List.mem_of_getElem? hd) acc W μ H τ v o s e r Q fun σ2 M2 W2 μ2 H2 τ2 p2 f2 e3 => q σ2 M2 W2 μ2 H2 τ2 (p2.imp fun b M3 ⟨eb, h1, h2⟩ => ?_) f2 e3
    refine ⟨fun hb => (h2 hb).imp fun y M4 ⟨ey, eM⟩ => ⟨F d, M', ey, eM, ?_, rfl, ?_⟩, fun hb => ⟨M', h1 hb, rfl, ?_⟩⟩
    · rw [e2, List.length_map]
      have h3 := List.length_filter_le pp (items.take i)
      have := (List.getElem?_eq_some_iff.mp hd).1
      rw [List.length_take] at h3
      omega
    · rw [e2, hs, if_pos (by rw [← eb]; exact hb), List.map_append]
      rfl
    · rw [e2, hs, if_neg (by rw [← eb, hb]; exact Bool.false_ne_true), List.append_nil]
  · subst e1
    rw [List.take_length] at e2
    rw [e2]
    exact p
theorem ae_fmap {wi : TI} {g : TG} {tt : TT} {vs : List Nat} {l : List D} (F : D → D) (pp : D → Bool) (hM : M.all (MO.below M.length) = true) (gk : GK g vs) (hz : l.length ≤ sizeLine)
    (h : AI B K wi σ M fun items M1 => M1 = M ∧ items = l ∧ Φ (.d (.lst ((l.filter pp).map F))) M)
    (ht : ∀ d ∈ l, ∀ acc, AG B K g (.d d) (wipeA σ vs) (M ++ [.lst acc]) fun σ2 M2 => AT B K tt σ2 M2 fun b M3 => b = pp d ∧ (b = false → M3 = M ++ [.lst acc]) ∧ (b = true → AE B K te σ2 M3 fun y M4 => y = .d (F d) ∧ M4 = M ++ [.lst acc])) : AE B K (tLc wi g tt te vs) σ M Φ := ae_fmapP F pp hM gk hz (fun _ => True.intro) h ht
theorem uc_allP {x : AV} {l : List D} (p : D → Bool) (h : SV M x (l.map fun d => .bl (p d))) (k : Φ (.d (.bl (l.all p))) M) : AC B K (rAll K) [x] M Φ := by
  refine uc_all (bs := l.map p) (by rw [List.map_map]; exact h) ?_
  rw [show (l.map p).all id = l.all p from by rw [List.all_map]; rfl]
  exact k
theorem atI_natD {l : List D} {i : Nat} {d : D} (h : l[i]? = some d) : atI l (i : Int) = some d := by
  have hl := (List.getElem?_eq_some_iff.mp h).1
  unfold atI ixN
  rw [if_pos (by omega), if_pos (by omega), Option.bind_some, Int.toNat_natCast]
  exact h
theorem iteB {b : Bool} {α : Prop} {β : Prop} (h1 : b = true → α) (h2 : b = false → β) : (b = true → α) ∧ (b = false → β) := ⟨h1, h2⟩
end
end Al

/-! xs.extend(t), t a tuple -/
namespace Ow
open PySem PySem.Spec PySem.SeqAt
open AutoSeq1 (wpAny_loadPart' idx_int sub_tuple_tuple sub_list_list sub_tuple_list sub_list_tuple)
theorem extend_tup (l b : Addr) (xs ys : Array Value) (n m : Nat) (dd : Option Addr) (sl : Array (Option Value)) (h0 : ¬(!xs.isEmpty && Builtin.List.listTooLong (xs.size + ys.size)) = true) (h1 : xs.size ≤ sizeLine) (h2 : xs.size + ys.size ≤ sizeLine + 1) :
    Meets (Builtin.«list.extend» ⟨[.ref l, .ref b], []⟩) (fun _ R s => (s.heap.get? l = some { cls := .type "list", dict := none, data := .seq xs n, slots := #[] } ∧ s.heap.get? b = some { cls := .type "tuple", dict := dd, data := .seq ys m, slots := sl }) ∧
      R (.ok (.ret Value.none)) { s with heap := s.heap.update l (Obj.mapSeq fun x => x ++ ys), toks := s.toks }) :=
  .of_wp fun prog w A R s h => by
    obtain ⟨hp, g, d, tk, os⟩ := s
    obtain ⟨⟨hl, hb⟩, h⟩ := h
    have f1 := idx_int; have f2 := sub_tuple_tuple; have f3 := sub_list_list; have f4 := sub_tuple_list; have f5 := sub_list_tuple
    have hz : (xs ++ ys).size ≤ sizeLine + 1 := by rw [Array.size_append]; exact h2
    wp_walk using (wpAny_updateSeq hl rfl (hz := h1) (_hz' := hz)), wpAny_loadPart' hl, wpAny_loadPart' hb
    exact ⟨_, rfl, h⟩
end Ow
namespace Al
open PySem PyProof.Rows L2 Gx
variable [Al.TabList]
def rExtT (K : PySem.W.Frag) : V → List V → Hp → VK → Prop := fun x vs H Q => ∃ l b xs zs, x = .ref l ∧ vs = [.ref b] ∧ H l = some (.lst xs) ∧ SqT K H b zs ∧ xs.length + zs.length ≤ sizeLine ∧ Q .non (upd H l (.lst (xs ++ zs)))
theorem mt_extT {X : Cx} : MtM X "list.extend" (rExtT X.K) := by
  intro pins s σ H x vs v us Q I rx rv h
  obtain ⟨l, b, xs, zs, rfl, rfl, hH, hB, hz, q⟩ := h
  cases rx
  obtain ⟨u, rfl, ru⟩ := rv.one
  cases ru
  obtain ⟨z, its, n, r, hl, e⟩ := I.lstM hH
  obtain ⟨its2, r2, ⟨o, ho, hc, m, hd⟩, hz2⟩ := I.tuple hB
  have l1 := r.length
  have l2 := r2.length
  have hsz : its.toArray.size + its2.toArray.size ≤ sizeLine := by rw [List.size_toArray, List.size_toArray]; omega
  have hlong : ¬ (!its.toArray.isEmpty && Builtin.List.listTooLong (its.toArray.size + its2.toArray.size)) = true := by
    rw [notLongL hsz, Bool.and_false]
    exact Bool.false_ne_true
  obtain ⟨oc, od, dt, sl⟩ := o
  simp only at hc hd
  subst hc hd
  refine call_meets F.slot_list_extend ⟨_, e, rfl⟩ F.entry_list_extend (F.args_list_extend_2 _ _) (Ow.extend_tup l b its.toArray its2.toArray n m od sl hlong (by rw [List.size_toArray]; omega) (by omega)) ⟨⟨e, ho⟩, ?_⟩
  refine ⟨.non, _, I.lset (its' := its ++ its2) hH e (by simp) (r.append r2) ?_, rfl, q⟩
  rw [List.length_append]
  omega
def uExt (K : PySem.W.Frag) : V → List V → Hp → VK → Prop := fun x xs H Q => rExtend x xs H Q ∨ rExtT K x xs H Q
theorem k_ext (K : PySem.W.Frag) {X : Cx} (hK : X.K = K := by rfl) : MtR X "list.extend" (uExt K) := hK ▸ MtR.or mt_extend mt_extT
section
variable {X : Cx} (K : PySem.W.Frag)
theorem pe_bmK {o e : Expr} {es : List Expr} {to : TE} {t : TA} {name : Str} {apos cpos : Pos} {T id : String} {r : V → List V → Hp → VK → Prop} (pa : PlainAttrs T) (slot : Slot T name id) (hty : typeOf (.builtin id) = pure (.type "method_descriptor")) (hm : MtR X id r) (ho : PE X o to) (ha : PA X (e :: es) t)
    (hbase : attributeBase o name X.env (eval o X.env) = eval o X.env := by rfl)
    (hfew : ((backTo cpos (starEach (e :: es) X.env)).all (fun x => !x.1) && (backToKw cpos (keywordEach [] X.env)).all (fun x => x.1.isSome)
      && decide ((e :: es).length + ([] : List Keyword).length + (if ([] : List Keyword).isEmpty then 0 else 1) < 30)) = true := by rfl)
    (hline : (apos.endLine == cpos.line) = true := by rfl) (hs : starEach (e :: es) X.env = (false, eval e X.env) :: starEach es X.env := by rfl) (hplain : (backTo cpos (starEach es X.env)).any (·.1) = false := by rfl) (hK : X.K = K := by rfl) :
    PE X (.Call (.Attribute o name apos) (e :: es) [] cpos) (tBM K T r to t) := hK ▸ pe_bm pa slot hty hm ho ha hbase hfew hline hs hplain
theorem pe_bm0K {o : Expr} {to : TE} {name : Str} {apos cpos : Pos} {T id : String} {r : V → List V → Hp → VK → Prop} (pa : PlainAttrs T) (slot : Slot T name id) (hty : typeOf (.builtin id) = pure (.type "method_descriptor")) (hm : MtR X id r) (ho : PE X o to)
    (hbase : attributeBase o name X.env (eval o X.env) = eval o X.env := by rfl) (hline : (apos.endLine == cpos.line) = true := by rfl) (hK : X.K = K := by rfl) : PE X (.Call (.Attribute o name apos) [] [] cpos) (tBM0 K T r to) := hK ▸ pe_bm0 pa slot hty hm ho hbase hline
end
section
variable {B : Base} {K : PySem.W.Frag} {σ : AEnv} {M : List MO} {ta tb te to : TE} {t : TA} {x y : AV} {Φ : AV → List MO → Prop}
theorem ae_ext (h : AE B K to σ M fun x M1 => ∃ k l0, x = .m k ∧ M1[k]? = some (.lst l0) ∧ AA B K t σ M1 fun ys M2 => ∃ y l m, ys = [y] ∧ M2[k]? = some (.lst l) ∧ (SL M2 y m ∨ y = .d (.tup m)) ∧ l.length + m.length ≤ sizeLine ∧ Φ (.d .non) (M2.set k (.lst (l ++ m)))) : AE B K (tBM K "list" (uExt K) to t) σ M Φ := fun W μ H τ o s e Q q =>
  h W μ H τ o s e _ fun x M1 W1 μ1 H1 v ⟨k, l0, e1, e2, p⟩ f1 r1 => by
    subst e1
    obtain ⟨a, vs, rfl, ha, h1, h2⟩ := ra_lst f1.sim e2 r1
    refine ⟨.inl ⟨rfl, vs, SqL.of h1⟩, p W1 μ1 H1 τ f1.ok f1.sim (f1.re e) _ fun ys M2 W2 μ2 H2 ws ⟨y, l, m, e3, e4, e5, hz, p2⟩ f2 r2 => ?_⟩
    subst e3
    obtain ⟨w, rfl, rw_⟩ := ra_one r2
    obtain ⟨a', vs', ea, ha', h3, h4⟩ := ra_lst f2.sim e4 (f2.ra r1)
    cases ea
    rcases e5 with e5 | e5
    · obtain ⟨b, zs, rfl, hb, hb2⟩ := e5.run f2.sim rw_
      refine .inl ⟨a, b, vs', zs, rfl, rfl, h3, hb, by rw [← h4.length, ← hb2.length]; exact hz, ?_⟩
      have g := go_set (mo := .lst (l ++ m)) (u := .lst (vs' ++ zs)) f2.ok f2.sim ha' ⟨_, upd_same, h4.append hb2⟩
      exact q _ _ _ _ _ _ p2 ((f1.trans f2).trans g) rfl
    · subst e5
      obtain ⟨b, zs, rfl, hb, hb2⟩ := rw_
      refine .inr ⟨a, b, vs', zs, rfl, rfl, h3, sqt_mono f2.sim.sub hb, by rw [← h4.length, ← hb2.length]; exact hz, ?_⟩
      have g := go_set (mo := .lst (l ++ m)) (u := .lst (vs' ++ zs)) f2.ok f2.sim ha' ⟨_, upd_same, h4.append hb2⟩
      exact q _ _ _ _ _ _ p2 ((f1.trans f2).trans g) rfl
end
end Al

/-! lists of ints: ==, lengths -/
namespace Al
open PySem PyProof.Rows L2 Gx
variable [Al.TabList]
theorem pures_ints : ∀ ns : List Int, D.pures (ns.map D.int) = true
  | [] => rfl
  | n :: ns => by show (D.pure (.int n) && D.pures (ns.map D.int)) = true; rw [pures_ints ns]; rfl
theorem lay_ints : ∀ ns : List Int, PyData.canLayAll0 (toPs (ns.map D.int)) = true ∧ PyData.depthAll (toPs (ns.map D.int)) = 0
  | [] => ⟨by simp [toPs, PyData.canLayAll0], by simp [toPs, PyData.depthAll]⟩
  | n :: ns => by
    obtain ⟨h1, h2⟩ := lay_ints ns
    constructor
    · show PyData.canLayAll0 (.int n :: toPs (ns.map D.int)) = true
      simp only [PyData.canLayAll0, PyData.canLay0, h1, Bool.and_true]
    · show PyData.depthAll (.int n :: toPs (ns.map D.int)) = 0
      simp only [PyData.depthAll, PyData.depth, h2, Nat.max_self]
theorem shaped_ints (ns : List Int) : SeqAt.shaped (.list (toPs (ns.map D.int))) = true := by
  obtain ⟨h1, h2⟩ := lay_ints ns
  unfold SeqAt.shaped
  simp only [PyData.canLay0, PyData.depth, h1, h2]
  rfl
theorem eqv_ints : ∀ as bs : List Int, PyData.eqvAll (toPs (as.map D.int)) (toPs (bs.map D.int)) = decide (as = bs)
  | [], [] => by simp [toPs, PyData.eqvAll]
  | [], b :: bs => by simp [toPs, toP, PyData.eqvAll]
  | a :: as, [] => by simp [toPs, toP, PyData.eqvAll]
  | a :: as, b :: bs => by
    have ih := eqv_ints as bs
    show PyData.eqvAll (.int a :: toPs (as.map D.int)) (.int b :: toPs (bs.map D.int)) = _
    simp only [PyData.eqvAll, PyData.eqv, ih]
    by_cases h : a = b
    · subst h; simp
    · simp [h]
theorem eqv_listI (as bs : List Int) : PyData.eqv (.list (toPs (as.map D.int))) (.list (toPs (bs.map D.int))) = decide (as = bs) := by
  simp only [PyData.eqv]
  exact eqv_ints as bs
section
variable {B : Base} {K : PySem.W.Frag} {M : List MO} {x y : AV} {Φ : AV → List MO → Prop}
/-- a list of ints, frozen or not -/
inductive LI (M : List MO) : AV → List Int → Prop
  | d (ns : List Int) : LI M (.d (.lst (ns.map D.int))) ns
  | m {k : Nat} {ns : List Int} (h : M[k]? = some (.lst (ns.map D.int))) : LI M (.m k) ns
theorem LI.pv {ns : List Int} (h : LI M x ns) : PV M x (.list (toPs (ns.map D.int))) := by
  cases h with
  | d ns => exact .d (x := .lst (ns.map D.int)) (pures_ints ns)
  | m h => exact .mm h (pures_ints ns)
theorem ur_eqLI {as bs : List Int} (hx : LI M x as) (hy : LI M y bs) (k : Φ (.d (.bl (decide (as = bs)))) M) : AR B K (uEq K) x y M Φ :=
  ur_eqP hx.pv hy.pv (shaped_ints as) (shaped_ints bs) (by rw [eqv_listI]; exact k)
theorem ur_neLI {as bs : List Int} (hx : LI M x as) (hy : LI M y bs) (k : Φ (.d (.bl (!decide (as = bs)))) M) : AR B K (uNe K) x y M Φ :=
  ur_neP hx.pv hy.pv (shaped_ints as) (shaped_ints bs) (by rw [eqv_listI]; exact k)
end
end Al


namespace Al
open PySem PyProof.Rows L2 Gx
variable [Al.TabList]
theorem pg_tupK (K : PySem.W.Frag) {X : Cx} {pos : Pos} {es : List Expr} {k : Nat} {t : TGs} {n : Nat} (hc : X.calm = true) (h : PGs X es t)
    (hn : (assignEach es X.env).length = n := by rfl) (hst : (assignEach es X.env).findIdx? (·.1) = none := by rfl) (hK : X.K = K := by rfl) : PG X (.Tuple es k pos) (gTup K n t) := hK ▸ pg_tup hc h hn hst
theorem pg_lstK (K : PySem.W.Frag) {X : Cx} {pos : Pos} {es : List Expr} {k : Nat} {t : TGs} {n : Nat} (hc : X.calm = true) (h : PGs X es t)
    (hn : (assignEach es X.env).length = n := by rfl) (hst : (assignEach es X.env).findIdx? (·.1) = none := by rfl) (hK : X.K = K := by rfl) : PG X (.Tuple es k pos) (gLst K n t) := hK ▸ pg_lst hc h hn hst
/-- a call that raises nothing of what it may -/
theorem passF {X : Cx} : Passes (L2.CX X.prog X.w) X (fun _ _ _ => False) := fun _ _ _ _ _ _ _ ⟨_, _, _, _, _, _, _, _, _, _, _, _, w⟩ => w.elim
end Al


namespace Al
open PySem PyProof.Rows L2 Gx
variable [Al.TabList]
theorem pick_ras0 {K : PySem.W.Frag} {W : Hp} {μ : List Addr} {xs ys : List AV} {vs zs : List V} (ix : List Nat) (r : RAs K W μ xs vs) (r2 : RAs K W μ ys zs) : RAs K W μ (pick ix xs [] [] ys) (pick ix vs [] [] zs) :=
  pick_ras ix (RAs.append (RAs.append (RAs.append r ras_nil) ras_nil) r2)
section
variable {B : Base} {K : PySem.W.Frag} {σ : AEnv} {M : List MO} {Φ : AV → List MO → Prop} {asp : ASp} {E : XK} {t tk : TA} {ta : TE} {e : KwE}
/-- f(k = v, ..) -/
theorem ae_callW {Ψ : Exc → List MO → Prop} (mono : Mono asp) (qe : EFits B K Ψ E)
    (h : AA B K t σ M fun xs M1 => AA B K tk σ M1 fun ys M2 => xs.length = e.1 ∧ ys.length = e.2.1.length ∧ Sent asp (pick e.2.2 xs [] [] ys) M2 Φ Ψ) : AE B K (tCallW (conc K asp) e E t tk) σ M Φ := fun W μ H τ o s en Q q =>
  h W μ H τ o s en _ fun xs M1 W1 μ1 H1 vs p f1 r1 => p W1 μ1 H1 τ f1.ok f1.sim (f1.re en) _ fun ys M2 W2 μ2 H2 zs ⟨l1, l2, p2⟩ f2 r2 =>
    ⟨by rw [← r1.length]; exact l1, by rw [← r2.length]; exact l2, sent_run mono f2.ok f2.sim (pick_ras0 _ (f2.ras r1) r2) p2 (fun z M' W' μ' H' v p3 f3 r3 => q _ _ _ _ _ _ p3 ((f1.trans f2).trans f3) r3) qe⟩
/-- o.m(k = v, ..) -/
theorem ae_methW {C : Addr} {m : Str} {Ψ : Exc → List MO → Prop} (mono : Mono asp) (qe : EFits B K Ψ E)
    (h : AE B K ta σ M fun x M1 => ∃ ns l, x = .d (.ins C ns l) ∧ m ∉ ns ∧ AA B K tk σ M1 fun ys M2 => 1 = e.1 ∧ ys.length = e.2.1.length ∧ Sent asp (pick e.2.2 [x] [] [] ys) M2 Φ Ψ) : AE B K (tMethW C m (conc K asp) e E ta tk) σ M Φ := fun W μ H τ o s en Q q =>
  h W μ H τ o s en _ fun x M1 W1 μ1 H1 v ⟨ns, l, e1, hm, p⟩ f1 r1 => by
    subst e1
    have r1' := r1
    obtain ⟨a, dx, vs, rfl, h1, h2, h3⟩ := r1
    refine ⟨a, dx, ns.zip vs, rfl, f1.sim.sub _ _ h1, lookup_zip_none hm, p W1 μ1 H1 τ f1.ok f1.sim (f1.re en) _ fun xs M2 W2 μ2 H2 ws ⟨l1, l2, p2⟩ f2 r2 => ⟨l1, by rw [← r2.length]; exact l2, ?_⟩⟩
    exact sent_run mono f2.ok f2.sim (pick_ras0 _ (ras_cons (f2.ra r1') ras_nil) r2) p2 (fun z M' W' μ' H' v p3 f3 r3 => q _ _ _ _ _ _ p3 ((f1.trans f2).trans f3) r3) qe
end
end Al

/-! defs that come to a repr of tuples, lists: promised where no repr runs around -/
namespace Al
open PySem PySem.Spec PyProof.Rows L2 Gx
variable [Al.TabList]
structure FnOkG (P : Program) (w : World) (K : PySem.W.Frag) (mg : Str → Option Value) (base : Heap) (CX : CXT) (k : Nat) (f : Addr) (fd : FuncData) (ps : List Str) (sp : Sp) : Prop where
  len : ∀ vs H Q E, sp vs H Q E → vs.length = ps.length
  run : ∀ (A : Around) (outer : List Env) (s : Shared) (H : Hp) (args : Args) (us : List Value) (vs : List V) (Q : VK) (E : XK), A.guards = some [] → Room k A → Env0 P w K mg base A outer s H → BindsTo s fd args (ps.zip us) → Vals vs us → sp vs H Q E →
    codeAny (model P w) A (.call (.ref f) args) (CR CX outer P w H s Q E) s
theorem FnOkG.imp {P : Program} {w : World} {K : PySem.W.Frag} {mg : Str → Option Value} {base : Heap} {CX : CXT} {k : Nat} {f : Addr} {fd : FuncData} {ps : List Str} {sp sp' : Sp} (F : FnOkG P w K mg base CX k f fd ps sp)
    (h : ∀ vs H Q E, sp' vs H Q E → sp vs H Q E) : FnOkG P w K mg base CX k f fd ps sp' :=
  ⟨fun vs H Q E q => F.len vs H Q E (h _ _ _ _ q), fun A outer s H args us vs Q E gg hr he hb hv hs => F.run A outer s H args us vs Q E gg hr he hb hv (h _ _ _ _ hs)⟩
section
variable {X : Cx} {CX : CXT} {k : Nat} {f : Addr} {fd : FuncData} {ps : List Str} {sp : Sp} {E : XK}
theorem run_fnG {pins : List (Addr × Obj)} {σ : L2.St} {H : Hp} {s : Shared} {Q : VK} {us : List Value} {vs : List V} (F : FnOkG X.prog X.w X.K X.mg X.base CX k f fd ps sp) (gg : X.A.guards = some []) (hr : Room k X.A) (hb : Binds X.K fd ps []) (hx : Passes CX X E)
    (I : L2.Inv X pins σ H s) (r : Vals vs us) (h : sp vs H Q E) : wpAny (model X.prog X.w) X.A (call (.ref f) us) (EP X pins σ Q) X.xe s := by
  have hl : us.length = ps.length := by rw [← r.length]; exact F.len _ _ _ _ h
  have hb2 := hb s us I.kIn (by rw [List.append_nil]; exact hl)
  rw [List.append_nil] at hb2
  refine wpAny_call (codeAny_mono (F.run X.A X.stack s H ⟨us, []⟩ us vs Q E gg hr I.env0 hb2 r h) fun r s' hq => ?_)
  match r, hq with
  | .error e, hq => exact hx pins σ H s e s' I hq
  | .ok (.ret u), hq => exact I.after hq
  | .ok .next, hq => exact hq.elim
  | .ok .brk, hq => exact hq.elim
  | .ok .cont, hq => exact hq.elim
end
structure FnAtG (P : Program) (w : World) (K : PySem.W.Frag) (mg : Str → Option Value) (base : Heap) (CX : CXT) (k : Nat) (x : Str) (ps : List Str) (asp : ASp) : Prop where
  ex : ∃ f fd, FnOkG P w K mg base CX k f fd ps (conc K asp) ∧ mg x = some (.ref f) ∧ PySem.W.keepIn K (.ref f) = true ∧ Binds K fd ps []
section
variable {X : Cx} {CX : CXT} {k : Nat} {x : Str} {ps : List Str} {asp : ASp} {E : XK} {p pos : Pos} {e : Expr} {es : List Expr} {t : TA}
theorem pe_fnG {K : PySem.W.Frag} (G : FnAtG X.prog X.w K X.mg X.base CX k x ps asp) (gg : X.A.guards = some []) (hr : Room k X.A) (hg : Gl X x) (hx : Passes CX X E) (ha : PA X (e :: es) t) (hdb : (x == ("__debug__" : Str)) = false := by decide)
    (he : starEach (e :: es) X.env = (false, eval e X.env) :: starEach es X.env := by rfl) (hpl : (backTo pos (starEach es X.env)).any (·.1) = false := by rfl) (hK : X.K = K := by rfl) : PE X (.Call (.Name x p) (e :: es) [] pos) (tCall (conc K asp) [] E t) := by
  subst hK
  obtain ⟨f, fd, F, hm, hk, hb⟩ := G.ex
  refine ⟨fun pins s σ H Q I h => ?_⟩
  refine wpAny_Call_Name_kw (ld_glob I hg hm ?_ hdb)
  refine PySem.W.callWith_K (h₀ := X.base) I.ok.mod.kin hk (thn (ha.run pos pins s σ H _ I h) fun us s1 ⟨vs, H1, I1, r, q⟩ => ⟨I1.kIn, ?_⟩) he hpl
  exact run_fnG F gg hr hb hx I1 r (by dsimp only at q; rw [List.append_nil] at q; exact q)
end
theorem fn_ofG {CX : CXT} {P : Program} {w : World} {K : PySem.W.Frag} {mg : Str → Option Value} {base : Heap} {k : Nat} {f : Addr} {name qual : Str} {params : Arguments} {body : List Stmt} {scope : Scope} {dV kV doc pm cdv ct oc : Value} {an od : Option Addr}
    {osl : Array (Option Value)} {N ps : List Str} {sp : Sp} (lk : K.lookup f = some ⟨oc, od, .func (PySem.W.fnOf name qual params body scope dV kV doc pm an cdv ct), osl⟩) (hcd : PySem.W.codeIn K cdv qual = true) (S : FnScope N ps scope)
    (len : ∀ vs H Q E, sp vs H Q E → vs.length = ps.length)
    (hbody : ∀ (A : Around) (outer : List Env) (s : Shared) (H : Hp) (vs : List V) (Q : VK) (E : XK), A.guards = some [] → Room k (A.deeper (envOfC qual scope s.heap.objs.size f cdv)) → sp vs H Q E →
      ∃ t, PSs (cxOf CX P w K mg base N qual scope f cdv A outer s H E) body t ∧ t { nx := fun _ H' => Q .non H', rt := Q } (start N vs) H) :
    FnOkG P w K mg base CX (k + 1) f (PySem.W.fnOf name qual params body scope dV kV doc pm an cdv ct) ps sp := by
  refine ⟨len, fun A outer s H args us vs Q E gg hr e0 hb r hsp => ?_⟩
  have KX : K.In s.heap := e0.mod.kin.keeps fun b o e => (e0.bs b o e).1
  refine codeAny_call_function hr.depth (KX _ _ lk) rfl S.co S.gen rfl (PySem.W.codeRec_of KX hcd) (hb _ _ _ _ ?_)
  refine wpAny_newFunctionEnv_cells S.kind (fun y hy => ?_) fun env he s1 x => ?_
  · rcases S.par y.1 (List.of_mem_zip (a := y.1) (b := y.2) hy).1 with q | q
    · exact .inl q
    · exact .inr ⟨q, PySem.W.cellsFrom_some _ _ _ (.inl q)⟩
  subst he
  refine ⟨(e0.mod.nolimit.keeps fun b o e => (e0.bs b o e).1).keeps x.toInCall.keep, codeAny_func ?_⟩
  obtain ⟨t, ht, hq⟩ := hbody A outer s H vs Q E gg (hr.deeper _) hsp
  have I : L2.Inv (cxOf CX P w K mg base N qual scope f cdv A outer s H E) [] (start N vs) H s1 := inv_start S hr.hd e0 (len _ _ _ _ hsp) r x
  refine wpAny_mono (ht.run [] s1 (start N vs) H _ I hq) (fun fl s' hs => ?_) fun e s' hs => hs
  match fl, hs with
  | .ret u, ⟨v, σ', H', J, rv, q⟩ => exact ⟨v, H', J.os, J.bare, J.base, J.hok, rv, q⟩
  | .next, ⟨σ', H', J, q⟩ => exact ⟨V.non, H', J.os, J.bare, J.base, J.hok, rfl, q⟩
  | .brk, ⟨_, _, _, q⟩ => exact q.elim
  | .cont, ⟨_, _, _, q⟩ => exact q.elim
theorem FnAtG.of {P : Program} {w : World} {K : PySem.W.Frag} {mg : Str → Option Value} {base : Heap} {CX : CXT} {k : Nat} {x : Str} {ps : List Str} {asp : ASp} {kws : List KwE} (G : FnAt P w K mg base CX k x ps asp kws) : FnAtG P w K mg base CX k x ps asp := by
  obtain ⟨f, fd, F, h1, h2, h3, _⟩ := G.ex
  exact ⟨f, fd, ⟨F.len, fun A outer s H args us vs Q E _ => F.run A outer s H args us vs Q E⟩, h1, h2, h3⟩
/-- a def that raises nothing -/
theorem fnatG {P : Program} {w : World} {K : PySem.W.Frag} {mg : Str → Option Value} {base : Heap} {k : Nat} {x : Str} {st : Stmt} {ps N : List Str} {asp : ASp} {kws : List KwE} (D : DefAt K mg x st ps kws) (S : FnScope N ps (defScope st)) (len : ∀ xs M Φ Ψ, asp xs M Φ Ψ → xs.length = ps.length)
    (hbody : ∀ (f : Addr) (cdv : Value) (A : Around) (outer : List Env) (s : Shared) (H : Hp) (E : XK), A.guards = some [] → Room k (A.deeper (envOfC x (defScope st) s.heap.objs.size f cdv)) →
      ∃ t, PSs (cxOf CX0 P w K mg base N x (defScope st) f cdv A outer s H E).nox (defBody st) t ∧ ∀ (B : Base) xs M Φ Ψ, B.μ0.length = M.length → asp xs M Φ Ψ → AS B K t (startA N xs) M (defEnds M.length Φ)) : FnAtG P w K mg base CX0 (k + 1) x ps asp := by
  obtain ⟨f, fd, F, hm, hb, _⟩ := D.ex
  have kp := F.kp
  obtain ⟨oc, od, kV, doc, pm, an, cdv, ct, osl, rfl, lk, hcd⟩ := F.ex
  refine ⟨f, _, fn_ofG lk hcd S (fun vs H Q E h => ?_) (fun A outer s H vs Q E gg hr h => ?_), hm, kp, hb⟩
  · obtain ⟨W, μ, M, xs, _, r, ha⟩ := h
    rw [← r.length]; exact len _ _ _ _ ha
  · obtain ⟨t, h1, h2⟩ := hbody f cdv A outer s H E gg hr
    exact ⟨t, h1.nox, conc_body (B0 := Unit) h fun B xs M Φ Ψ hB ha _ => h2 B xs M Φ Ψ hB ha⟩
/-- the end: as law_call, at the caller itself, around which no repr runs -/
theorem law_callG {P : Program} {w : World} {K : PySem.W.Frag} {mg mb : Str → Option Value} {CX : CXT} {k : Nat} {fa a : Addr} {fd : FuncData} {x : Str} {sp : Sp} {s₁ : Shared} {vs : List Value} {ns : List Int}
    (KX : K.In s₁.heap) (hns : s₁.heap.Ns mainGlobals mg) (hb : s₁.heap.Ns builtinsNs mb) (hbb : ∀ x : Str, x ≠ "__name__" → mb x = bootBuiltins x) (hlim : s₁.heap.NoLimit) (hg : s₁.gens = #[])
    (ha : s₁.heap.get? a = some { cls := .type "list", data := .seq vs.toArray }) (hi : IntsAre vs ns) (hl : ns.length ≤ sizeLine) (hr : Room k callerA)
    (F : ∀ base : Heap, K.In base → base.Ns mainGlobals mg → FnOkG P w K mg base CX k fa fd [x] sp) (hbind : ∀ (s : Shared) (u : Value), BindsTo s fd ⟨[u], []⟩ [(x, u)])
    (hsp : ∀ H : Hp, Only H → SqL K H a (ns.map V.int) → sp [.ref a] H (fun v _ => v = .bl true) fun _ _ _ => False)
    (hCX : ∀ H e s', CX [] H s₁ (fun _ _ _ => False) e s' → False) :
    codeAny (model P w) callerA (.call (.ref fa) ⟨[.ref a], []⟩) (fun r s' => r = .ok (.ret (.bool true)) ∧ OldK s₁.heap s'.heap ∧ s'.os = s₁.os ∧ AllBare s'.gens) s₁ := by
  have rv := vals_ints hi
  -- what is tracked: the script, if it is none of the module's own
  obtain ⟨H, hA, hK, hO, hS, hok⟩ : ∃ H : Hp, (∀ b, H b ≠ none → b = a) ∧ (H a ≠ none → K.lookup a = none) ∧ Only H ∧ SqL K H a (ns.map V.int) ∧ HOk P w H s₁.heap := by
    cases hk : K.lookup a with
    | some o =>
      have e := KX a o hk
      rw [ha] at e
      cases e
      exact ⟨fun _ => none, fun b z => absurd rfl z, fun z => absurd rfl z, fun _ => .inl rfl, .inr ⟨_, vs.toArray, _, hk, rfl, rfl, rfl, by rw [List.size_toArray, hi.length]; exact hl, by simpa using rv⟩, fun b u z => nomatch (show (none : Option HO) = some u from z)⟩
    | none =>
      refine ⟨fun b => if b = a then some (.frz { cls := .type "list", data := .seq vs.toArray } (.lst (ns.map V.int))) else none, fun b z => ?_, fun _ => rfl, fun b => ?_, .inl (.inr ⟨{ cls := .type "list", data := .seq vs.toArray }, if_pos rfl⟩), fun b u z => ?_⟩
      · exact Decidable.byContradiction fun n => z (if_neg n)
      · exact if h : b = a then .inr ⟨_, _, if_pos h⟩ else .inl (if_neg h)
      · by_cases h : b = a
        · cases (if_pos h).symm.trans z
          subst h
          exact ⟨ha, by rw [List.length_map]; exact hl, vs, _, rv, ha⟩
        · cases (if_neg h).symm.trans z
  have only : ∀ {b : Addr} {o : Obj}, s₁.heap.get? b = some o → (b = a → False) → H b = none := fun {b o} _ n => Decidable.byContradiction fun z => n (hA b z)
  have nsK : ∀ {b : Addr} {m : Str → Option Value}, s₁.heap.Ns b m → (hidT s₁.heap H).Ns b m := fun {b m} ⟨o, es, ep, e, d, r⟩ => ⟨o, es, ep, hidT_get e (only e fun z => by
    subst z
    rw [ha] at e; cases e
    cases (show Data.seq vs.toArray _ = Data.dict es ep from d)), d, r⟩
  have hKb : K.In (hidT s₁.heap H) := fun b o e => hidT_get (KX b o e) (Decidable.byContradiction fun z => by
    have e2 := hA b z
    subst e2
    rw [hK z] at e; cases e)
  have e0 : Env0 P w K mg (hidT s₁.heap H) callerA [] s₁ H := ⟨rfl, ⟨hKb, nsK hns, ⟨mb, nsK hb, hbb⟩, let ⟨mc, h1, h2⟩ := hlim; ⟨mc, nsK h1, h2⟩⟩, fun b o e => of_hidT e, Nat.le_of_eq (hidT_size _ _), trivial, fun b hb => (List.not_mem_nil (show b ∈ ([] : List Addr) from hb)).elim, hok, .of_eq hg⟩
  refine codeAny_mono ((F _ hKb (nsK hns)).run callerA [] s₁ H ⟨[.ref a], []⟩ [.ref a] [.ref a] _ _ rfl hr e0 (hbind s₁ (.ref a)) (.cons rfl .nil) (hsp H hO hS)) fun r s' h => ?_
  match r, h with
  | .error e, h => exact (hCX H e s' h).elim
  | .ok .next, h => exact h.elim
  | .ok .brk, h => exact h.elim
  | .ok .cont, h => exact h.elim
  | .ok (.ret u), ⟨v, H', os, bare, un, hok', r', q⟩ =>
    obtain rfl : v = .bl true := q
    obtain rfl : u = Value.bool true := r'
    refine ⟨rfl, OldK.of_keep fun b o e => ?_, os, bare⟩
    rcases hO b with z | ⟨ob, xs, z⟩
    · exact un.keep b o e z (fun z2 => (List.not_mem_nil (show b ∈ ([] : List Addr) from z2)).elim) (by simp)
    · obtain ⟨e1, _⟩ := hok b _ z
      obtain ⟨e2, _⟩ := hok' b _ (un.frzs b ob _ z)
      rw [e] at e1; cases e1
      exact e2
theorem walk_ofG {l : PySem.W.OpenLaw} {n k : Nat} {q : Program} {loose : List Str} {XP : (Str → Option Value) → Heap → Prop} {YP : World → Heap → Prop} {d : DefRec} {K : Params → PySem.W.Frag} {CX : World → CXT} {sp : World → Sp} {x : Str}
    (hn : l.most = some n) (hn2 : n ≤ sizeLine) (hdf : d.params.defaults = []) (hr : Room k callerA)
    (hY : ∀ (w : World) (h : Heap), YP w h → (K w.params).In h)
    (F : ∀ (w : World) (mg : Str → Option Value) (fa : Addr) (h : Heap), (K w.params).In h → h.Ns mainGlobals mg → mg d.name = some (.ref fa) →
      ∃ fd : FuncData, (∀ (s : Shared) (u : Value), BindsTo s fd ⟨[u], []⟩ [(x, u)]) ∧
        ∀ base : Heap, (K w.params).In base → base.Ns mainGlobals mg → FnOkG l.prog w (K w.params) mg base (CX w) k fa fd [x] (sp w))
    (hsp : ∀ (w : World) (H : Hp) (a : Addr) (ns : List Int), ns.length ≤ n → Only H → SqL (K w.params) H a (ns.map V.int) → sp w [.ref a] H (fun v _ => v = .bl true) fun _ _ _ => False)
    (hCX : ∀ (w : World) (H : Hp) (s : Shared) (e : Value) (s' : Shared), CX w [] H s (fun _ _ _ => False) e s' → False) :
    PySem.W.WalkO q loose XP YP l.row.toRowW d [] (fun f vs => PySem.call f vs) := by
  refine Att.attach_call hn hdf fun w s₀ s₁ mg mb fa o pm cd doc a vs ns G Y ho hd hcd hmg hobj hints hlen hg => ?_
  have KX := hY w _ Y
  obtain ⟨fd, hb, hF⟩ := F w mg fa _ KX G.T.g hmg
  exact law_callG KX G.T.g G.T.b G.T.builtins G.T.nolimit hg hobj hints (Nat.le_trans hlen hn2) hr hF hb (fun H hO hS => hsp w H a ns hlen hO hS) fun H e s' => hCX w H s₁ e s'
end Al

/-! repr of data -/
namespace Al
open PySem PySem.Spec PyProof.Rows L2 Gx
variable [Al.TabList]
mutual
def dP : D → PyData
  | .non => .none
  | .bl b => .bool b
  | .int i => .int i
  | .str s => .str s
  | .tup l => .tuple (dPs l)
  | .lst l => .list (dPs l)
  | .scr l => .list (dPs l)
  | _ => .none
def dPs : List D → List PyData
  | [] => []
  | d :: l => dP d :: dPs l
end
mutual
def isP : D → Bool
  | .non => true
  | .bl _ => true
  | .int _ => true
  | .str _ => true
  | .tup l => isPs l
  | .lst l => isPs l
  | .scr l => isPs l
  | _ => false
def isPs : List D → Bool
  | [] => true
  | d :: l => isP d && isPs l
end
mutual
theorem noDict : ∀ d : D, (dP d).hasDict = false
  | .non => rfl
  | .bl _ => rfl
  | .int _ => rfl
  | .str _ => rfl
  | .ty _ => rfl
  | .adr _ => rfl
  | .ins _ _ _ => rfl
  | .clo _ _ => rfl
  | .dT _ _ => rfl
  | .dK _ _ => rfl
  | .exc _ _ _ _ _ => rfl
  | .tup l => noDicts l
  | .lst l => noDicts l
  | .scr l => noDicts l
theorem noDicts : ∀ l : List D, PyData.hasDictAll (dPs l) = false
  | [] => rfl
  | d :: l => by
    show (PyData.hasDict (dP d) || PyData.hasDictAll (dPs l)) = false
    rw [noDict d, noDicts l]; rfl
end
section
variable {P : Program} {w : World} {K : PySem.W.Frag} {H : Hp} {h : Heap}
theorem sqt_obj (hK : K.In h) (ho : HOk P w H h) {a : Addr} {vs : List V} (q : SqT K H a vs) : ∃ o its n, h.get? a = some o ∧ o.cls = .type "tuple" ∧ o.data = .seq its n ∧ Vals vs its.toList := by
  rcases q with (q | ⟨ob, q⟩) | ⟨o, its, n, h1, h2, h3, h4, h5⟩
  · obtain ⟨_, its, rv, o, e, c, n, dd⟩ := ho _ _ q
    exact ⟨o, its.toArray, n, e, c, dd, by simpa using rv⟩
  · obtain ⟨_, _, its, rv, o, e, c, n, dd⟩ := ho _ _ q
    exact ⟨o, its.toArray, n, e, c, dd, by simpa using rv⟩
  · exact ⟨o, its, n, hK _ _ h1, h2, h3, h5⟩
theorem sql_obj (hK : K.In h) (ho : HOk P w H h) {a : Addr} {vs : List V} (q : SqL K H a vs) : ∃ o its n, h.get? a = some o ∧ o.cls = .type "list" ∧ o.data = .seq its n ∧ Vals vs its.toList := by
  rcases q with (q | ⟨ob, q⟩) | ⟨o, its, n, h1, h2, _, h3, h4, h5⟩
  · obtain ⟨_, its, n, rv, e⟩ := ho _ _ q
    exact ⟨_, its.toArray, n, e, rfl, rfl, by simpa using rv⟩
  · obtain ⟨_, _, its, n, rv, e⟩ := ho _ _ q
    exact ⟨_, its.toArray, n, e, rfl, rfl, by simpa using rv⟩
  · exact ⟨o, its, n, hK _ _ h1, h2, h3, h5⟩
mutual
theorem reads_of (hK : K.In h) (ho : HOk P w H h) : ∀ (d : D) {v : V} {u : Value}, isP d = true → RD K H d v → RelV v u → ∃ as, Reads h u (dP d) as
  | .non, _, _, _, hd, r => by cases hd; cases (show _ = Value.none from r); exact ⟨_, .none⟩
  | .bl b, _, _, _, hd, r => by cases hd; cases (show _ = Value.bool b from r); exact ⟨_, .bool b⟩
  | .int i, _, _, _, hd, r => by cases hd; obtain ⟨t, rfl⟩ := r; exact ⟨_, .int i t⟩
  | .str s, _, _, _, hd, r => by cases hd; obtain ⟨t, rfl⟩ := r; exact ⟨_, .str s t⟩
  | .tup l, _, _, hp, hd, r => by
    obtain ⟨a, vs, rfl, q, hs⟩ := hd
    cases (show _ = Value.ref a from r)
    obtain ⟨o, its, n, e, c, dd, rv⟩ := sqt_obj hK ho q
    obtain ⟨as, ra⟩ := reads_all hK ho l hp hs rv
    exact ⟨_, .tuple e c dd ra⟩
  | .lst l, _, _, hp, hd, r => by
    obtain ⟨a, vs, rfl, q, hs⟩ := hd
    cases (show _ = Value.ref a from r)
    obtain ⟨o, its, n, e, c, dd, rv⟩ := sql_obj hK ho (SqL.of q)
    obtain ⟨as, ra⟩ := reads_all hK ho l hp hs rv
    exact ⟨_, .list e c dd ra⟩
  | .scr l, _, _, hp, hd, r => by
    obtain ⟨a, vs, rfl, q, hs⟩ := hd
    cases (show _ = Value.ref a from r)
    obtain ⟨o, its, n, e, c, dd, rv⟩ := sql_obj hK ho q
    obtain ⟨as, ra⟩ := reads_all hK ho l hp hs rv
    exact ⟨_, .list e c dd ra⟩
  | .ty _, _, _, hp, _, _ => nomatch hp
  | .adr _, _, _, hp, _, _ => nomatch hp
  | .ins _ _ _, _, _, hp, _, _ => nomatch hp
  | .clo _ _, _, _, hp, _, _ => nomatch hp
  | .dT _ _, _, _, hp, _, _ => nomatch hp
  | .dK _ _, _, _, hp, _, _ => nomatch hp
  | .exc _ _ _ _ _, _, _, hp, _, _ => nomatch hp
theorem reads_all (hK : K.In h) (ho : HOk P w H h) : ∀ (l : List D) {vs : List V} {us : List Value}, isPs l = true → RDs K H l vs → Vals vs us → ∃ as, ReadsAll h us (dPs l) as
  | [], _, _, _, hd, r => by cases hd; cases r; exact ⟨_, .nil⟩
  | d :: l, _, _, hp, hd, r => by
    obtain ⟨v, vs, rfl, h1, h2⟩ := hd
    obtain ⟨p1, p2⟩ := Bool.and_eq_true_iff.mp (show (isP d && isPs l) = true from hp)
    cases r with
    | cons r1 r2 =>
      obtain ⟨as, ra⟩ := reads_of hK ho d p1 h1 r1
      obtain ⟨bs, rb⟩ := reads_all hK ho l p2 h2 r2
      exact ⟨_, .cons ra rb⟩
end
end
def okP (d : D) : Prop := isP d = true ∧ (dP d).showable = true ∧ (dP d).depth ≤ 50 ∧ (dP d).shown.length ≤ sizeLine
/-- repr(x), x data -/
def uRepr (K : PySem.W.Frag) : List V → Hp → VK → Prop := fun xs H Q => ∃ d v, xs = [v] ∧ RD K H d v ∧ okP d ∧ Q (.str (dP d).shown) H
theorem u_repr {X : Cx} (gg : X.A.guards = some []) (hu : X.A.units + 64 < cLine) : CallR X (.builtin "repr") (uRepr X.K) := by
  intro pins s σ H xs us Q I r h
  obtain ⟨d, v, rfl, hd, ⟨hp, hs, hdp, hz⟩, q⟩ := h
  obtain ⟨u, rfl, rv⟩ := vals1 r
  obtain ⟨as, ra⟩ := reads_of I.kIn I.hok d hp hd rv
  have done : wpAny (model X.prog X.w) X.A (call (.builtin "repr") [u]) (EP X pins σ Q) X.xe s := by
    cases d with
    | non => cases ra; exact PySem.P.repr_of_none ⟨.str _, H, I.tok _, ⟨_, rfl⟩, q⟩
    | bl b => cases ra; exact PySem.P.repr_of_bool ⟨.str _, H, I.tok _, ⟨_, rfl⟩, q⟩
    | int i => cases ra; exact PySem.P.repr_of_int (of_decide_eq_true hs) ⟨.str _, H, I.tok _, ⟨_, rfl⟩, q⟩
    | str x => cases ra; exact PySem.P.repr_of_str ⟨.str _, H, I.tok _, ⟨_, rfl⟩, q⟩ hz
    | tup l =>
      obtain ⟨a, vs, rfl, _, _⟩ := hd
      cases (show u = Value.ref a from rv)
      exact repr_of_reads' ra hs (PyData.noDict_hsm (noDict _)) gg (by omega) (fun _ _ e => e) (fun h' u tk k => ⟨.str _, H, I.turnedL (ch := []) (fun b o _ e => k b o e) (fun b z => (List.not_mem_nil z).elim), ⟨_, rfl⟩, q⟩) hz
    | lst l =>
      obtain ⟨a, vs, rfl, _, _⟩ := hd
      cases (show u = Value.ref a from rv)
      exact repr_of_reads' ra hs (PyData.noDict_hsm (noDict _)) gg (by omega) (fun _ _ e => e) (fun h' u tk k => ⟨.str _, H, I.turnedL (ch := []) (fun b o _ e => k b o e) (fun b z => (List.not_mem_nil z).elim), ⟨_, rfl⟩, q⟩) hz
    | scr l =>
      obtain ⟨a, vs, rfl, _, _⟩ := hd
      cases (show u = Value.ref a from rv)
      exact repr_of_reads' ra hs (PyData.noDict_hsm (noDict _)) gg (by omega) (fun _ _ e => e) (fun h' u tk k => ⟨.str _, H, I.turnedL (ch := []) (fun b o _ e => k b o e) (fun b z => (List.not_mem_nil z).elim), ⟨_, rfl⟩, q⟩) hz
    | ty _ => cases hp
    | adr _ => cases hp
    | ins _ _ _ => cases hp
    | clo _ _ => cases hp
    | dT _ _ => cases hp
    | dK _ _ => cases hp
    | exc _ _ _ _ _ => cases hp
  exact done
theorem k_repr (K : PySem.W.Frag) {X : Cx} (gg : X.A.guards = some []) (hu : X.A.units + 64 < cLine) (hK : X.K = K := by rfl) : CallR X (.builtin "repr") (uRepr K) := hK ▸ u_repr gg hu
section
variable {B : Base} {K : PySem.W.Frag} {M : List MO} {Φ : AV → List MO → Prop}
theorem uc_repr {d : D} (ho : okP d) (k : Φ (.d (.str (dP d).shown)) M) : AC B K (uRepr K) [.d d] M Φ := fun W μ H us o s r Q q => by
  obtain ⟨v, rfl, r'⟩ := ra_one r
  exact ⟨d, v, rfl, RD.mono s.sub r', ho, q _ _ _ _ _ _ k (.refl o s) rfl⟩
end
end Al

namespace Al
open PySem PyProof.Rows L2 Lm
variable [Al.TabList]
/-- the tables, as HandS has them -/
def tabT : List (Addr × Str) := TabList.l.map fun p => (p.2.1, p.2.2)
theorem tabT_of {H : Hp} : LamX.Tabs tabT H ↔ Tabs H := by
  constructor
  · intro h p hp
    exact h (p.2.1, p.2.2) (List.mem_map.mpr ⟨p, hp, rfl⟩)
  · intro h p hp
    obtain ⟨q, hq, rfl⟩ := List.mem_map.mp hp
    exact h q hq
/-- what is asked of a def that makes lambdas: its code object and table are listed, one name a table -/
structure LamAt (base : Heap) (mg : Str → Option Value) (c P : Addr) (q : Str) : Prop where
  mem : (c, P, q) ∈ TabList.l
  one : ∀ p ∈ TabList.l, p.2.1 = P → p.2.2 = q
  tb : LamX.TabB base mg c P
def tLamV [Al.TabList] (P : Addr) (mk : Addr → LF) : TE := fun σ H Q => Tabs H ∧ ∀ f c' H1, (∀ b o, H b = some o → b ≠ P → H1 b = some o) → (∀ b, H1 b = Option.none → H b = Option.none) → Tabs H1 → H f = none → H1 f = some (LamO f (mk c')) → H1 c' = some (LamX.CodeO c' (mk c').qual) → Q (.ref f) H1
theorem pe_lamV {X : Cx} {c P : Addr} {q : Str} {params : Arguments} {body : Expr} {scope : Scope} {pos : Pos} (L : LamAt X.base X.mg c P q) (hcode : X.env.code = .ref c) (hq : q = X.env.qual ++ "<lambda>") (hdef : defaultsOf params X.env = ([], []))
    (hfree : ∀ y ∈ scope.names, y.2 = .free → X.env.scope.names.lookup y.1 = some .cell ∨ X.env.scope.names.lookup y.1 = some .free) :
    PE X (.Lambda params body scope pos) (tLamV P fun c' => ⟨q, params, body, scope, cloFrom X.env.cells scope.names [], c'⟩) := by
  subst hq
  refine ⟨fun pins s σ H Q I h => ?_⟩
  obtain ⟨hT, h⟩ := h
  refine lam_make3 (T := tabT) I L.tb hcode (List.mem_map.mpr ⟨_, L.mem, rfl⟩) (fun p hp e => ?_) (tabT_of.mpr hT) hdef (fun y hy e => (hfree y hy e).elim (fun z => I.ok.has _ (.inl z)) fun z => I.ok.has _ (.inr z)) fun f c' H1 s' I1 eN nn T1 f0 f1 c1 => ?_
  · obtain ⟨r, hr, rfl⟩ := List.mem_map.mp hp
    exact L.one r hr e
  · exact ⟨.ref f, H1, I1, rfl, h f c' H1 eN nn (tabT_of.mp T1) f0 f1 c1⟩
section
variable {B : Base} {K : PySem.W.Frag} {σ : AEnv} {M : List MO} {Φ : AV → List MO → Prop}
theorem ae_lamV {c P : Addr} {q : Str} {mk : Addr → LF} (mem : (c, P, q) ∈ TabList.l) (k : ∀ f c', Φ (.d (lamD f c' (mk c'))) M) : AE B K (tLamV P mk) σ M Φ := fun W μ H τ o s e Q qq => by
  refine ⟨s.tab, fun f c' H1 hE nn T1 f0 f1 c1 => ?_⟩
  have hP : ∀ a u, H a = some u → (∀ ps, u ≠ .tbl ps) → a ≠ P := fun a u h1 h2 z => by
    subst z
    obtain ⟨ps, h3, _⟩ := s.tab _ mem
    rw [h3] at h1
    exact h2 ps (Option.some.inj h1).symm
  have wf : W f = none := by
    cases z : W f with
    | none => rfl
    | some u => rw [s.sub f u z] at f0; cases f0
  have wP : W P = none := s.tw _ mem
  have wk : ∀ a u, W a = some u → H1 a = some u := fun a u h => hE a u (s.sub a u h) fun z => by rw [z, wP] at h; cases h
  have wc : ∀ u, W c' = some u → u = LamX.CodeO c' (mk c').qual := fun u h => by
    have := wk _ _ h
    rw [c1] at this
    exact (Option.some.inj this).symm
  have live : ∀ a ∈ μ, ∃ u, H a = some u ∧ Plain u ∧ H1 a = some u := fun a ha => by
    obtain ⟨u, hu⟩ := s.live ha
    have hp := s.plain ha hu
    exact ⟨u, hu, hp, hE a u hu (hP a u hu hp.1)⟩
  have mf : ∀ a ∈ μ, a ≠ f := fun a ha z => by
    obtain ⟨u, hu, _⟩ := live a ha
    rw [z, f0] at hu; cases hu
  have mc : ∀ a ∈ μ, a ≠ c' := fun a ha z => by
    obtain ⟨u, _, hp, hu⟩ := live a ha
    rw [z, c1] at hu
    cases hu
    exact hp.2 _ rfl
  have sW : Same W (upd (upd W c' (LamX.CodeO c' (mk c').qual)) f (LamO f (mk c'))) := fun a u h => by
    rw [upd_ne (fun z => by rw [z, wf] at h; cases h)]
    by_cases z : a = c'
    · rw [z] at h ⊢; rw [upd_same, wc u h]
    · rw [upd_ne z]; exact h
  have W'a : ∀ a u, upd (upd W c' (LamX.CodeO c' (mk c').qual)) f (LamO f (mk c')) a = some u → H1 a = some u := fun a u h => by
    by_cases z : a = f
    · subst z; rw [upd_same] at h; rw [← h]; exact f1
    · rw [upd_ne z] at h
      by_cases z2 : a = c'
      · rw [z2] at h ⊢; rw [upd_same] at h; rw [← h]; exact c1
      · rw [upd_ne z2] at h; exact wk a u h
  have wcc : upd (upd W c' (LamX.CodeO c' (mk c').qual)) f (LamO f (mk c')) c' = some (LamX.CodeO c' (mk c').qual) := by
    by_cases z : c' = f
    · have : LamO f (mk c') = LamX.CodeO c' (mk c').qual := by
        have h1 := c1
        rw [show H1 c' = H1 f from by rw [z], f1] at h1
        exact Option.some.inj h1
      rw [show upd (upd W c' (LamX.CodeO c' (mk c').qual)) f (LamO f (mk c')) c' = some (LamO f (mk c')) from by rw [z]; exact upd_same, this]
    · rw [upd_ne z]; exact upd_same
  refine qq _ _ (upd (upd W c' (LamX.CodeO c' (mk c').qual)) f (LamO f (mk c'))) μ H1 _ (k f c') ⟨⟨o.wsub.trans sW, fun a u h => ?_, fun a u h hx ht => ?_, o.pre, fun a h => o.live a (nn a h)⟩, ⟨W'a, s.nd, s.len, fun a ha => ?_, fun j a mo h1 h2 => ?_, T1, fun p hp => ?_⟩, sW, ⟨[], by simp⟩⟩ ⟨rfl, fun p hp => ?_⟩
  · by_cases z : a = f
    · subst z; exact .inr (.inl (o.live _ f0))
    · rw [upd_ne z] at h
      by_cases z2 : a = c'
      · subst z2; rw [upd_same] at h; cases h; exact .inr (.inr fun z => z.2 _ rfl)
      · rw [upd_ne z2] at h; exact o.wnew a u h
  · have h1 := o.fr a u h hx ht
    exact hE a u h1 (hP a u h1 ht)
  · rw [upd_ne (mf a ha), upd_ne (mc a ha)]; exact s.out a ha
  · have ha := List.mem_of_getElem? h1
    have q := (s.ob j a mo h1 h2).mono (μ' := []) sW (H' := H1) (fun u hu => hE a u hu (hP a u hu (s.plain ha hu).1))
    rwa [List.append_nil] at q
  · obtain ⟨ps, h3, _⟩ := T1 p hp
    obtain ⟨ps0, h30, _⟩ := s.tab p hp
    rw [upd_ne (fun z => by rw [z, f0] at h30; cases h30), upd_ne (fun z => by rw [z, c1] at h3; cases h3)]
    exact s.tw p hp
  · simp only [List.mem_cons, List.not_mem_nil, or_false] at hp
    rcases hp with rfl | rfl
    · exact upd_same
    · exact wcc
end
end Al
namespace Al
open PySem PyProof.Rows L2 Lm Gx
variable [Al.TabList]
/-- a def by its statement, its code object at c -/
structure DefAtC (K : PySem.W.Frag) (mg : Str → Option Value) (x : Str) (st : Stmt) (ps : List Str) (c : Addr) (kws : List KwE := []) : Prop where
  ex : ∃ (f : Addr) (oc : Value) (od : Option Addr) (kV doc pm : Value) (an : Option Addr) (ct : Value) (osl : Array (Option Value)),
    K.lookup f = some ⟨oc, od, .func (PySem.W.fnOf x x (defArgs st) (defBody st) (defScope st) .none kV doc pm an (.ref c) ct), osl⟩ ∧ PySem.W.codeIn K (.ref c) x = true ∧ mg x = some (.ref f) ∧ PySem.W.keepIn K (.ref f) = true ∧
    Binds K (PySem.W.fnOf x x (defArgs st) (defBody st) (defScope st) .none kV doc pm an (.ref c) ct) ps [] ∧ ∀ e ∈ kws, KwOk K (PySem.W.fnOf x x (defArgs st) (defBody st) (defScope st) .none kV doc pm an (.ref c) ct) ps e
theorem fnatGC {P : Program} {w : World} {K : PySem.W.Frag} {mg : Str → Option Value} {base : Heap} {k : Nat} {x : Str} {st : Stmt} {ps N : List Str} {asp : ASp} {kws : List KwE} {c : Addr} (D : DefAtC K mg x st ps c kws) (S : FnScope N ps (defScope st)) (len : ∀ xs M Φ Ψ, asp xs M Φ Ψ → xs.length = ps.length)
    (hbody : ∀ (f : Addr) (A : Around) (outer : List Env) (s : Shared) (H : Hp) (E : XK), A.guards = some [] → Room k (A.deeper (envOfC x (defScope st) s.heap.objs.size f (.ref c))) →
      ∃ t, PSs (cxOf CX0 P w K mg base N x (defScope st) f (.ref c) A outer s H E).nox (defBody st) t ∧ ∀ (B : Base) xs M Φ Ψ, B.μ0.length = M.length → asp xs M Φ Ψ → AS B K t (startA N xs) M (defEnds M.length Φ)) : FnAtG P w K mg base CX0 (k + 1) x ps asp := by
  obtain ⟨f, oc, od, kV, doc, pm, an, ct, osl, lk, hcd, hm, kp, hb, _⟩ := D.ex
  refine ⟨f, _, fn_ofG lk hcd S (fun vs H Q E h => ?_) (fun A outer s H vs Q E gg hr h => ?_), hm, kp, hb⟩
  · obtain ⟨W, μ, M, xs, _, r, ha⟩ := h
    rw [← r.length]; exact len _ _ _ _ ha
  · obtain ⟨t, h1, h2⟩ := hbody f A outer s H E gg hr
    exact ⟨t, h1.nox, conc_body (B0 := Unit) h fun B xs M Φ Ψ hB ha _ => h2 B xs M Φ Ψ hB ha⟩
theorem fnatC {P : Program} {w : World} {K : PySem.W.Frag} {mg : Str → Option Value} {base : Heap} {k : Nat} {x : Str} {st : Stmt} {ps N : List Str} {asp : ASp} {kws : List KwE} {c : Addr} (D : DefAtC K mg x st ps c kws) (S : FnScope N ps (defScope st)) (len : ∀ xs M Φ Ψ, asp xs M Φ Ψ → xs.length = ps.length)
    (hbody : ∀ (f : Addr) (A : Around) (outer : List Env) (s : Shared) (H : Hp) (E : XK), Room k (A.deeper (envOfC x (defScope st) s.heap.objs.size f (.ref c))) →
      ∃ t, PSs (cxOf CX0 P w K mg base N x (defScope st) f (.ref c) A outer s H E).nox (defBody st) t ∧ ∀ (B : Base) xs M Φ Ψ, B.μ0.length = M.length → asp xs M Φ Ψ → AS B K t (startA N xs) M (defEnds M.length Φ)) : FnAt P w K mg base CX0 (k + 1) x ps asp kws := by
  obtain ⟨f, oc, od, kV, doc, pm, an, ct, osl, lk, hcd, hm, kp, hb, hk⟩ := D.ex
  refine ⟨f, _, fn_of lk hcd S (fun vs H Q E h => ?_) (fun A outer s H vs Q E hr h => ?_), hm, kp, hb, hk⟩
  · obtain ⟨W, μ, M, xs, _, r, ha⟩ := h
    rw [← r.length]; exact len _ _ _ _ ha
  · obtain ⟨t, h1, h2⟩ := hbody f A outer s H E hr
    exact ⟨t, h1.nox, conc_body (B0 := Unit) h fun B xs M Φ Ψ hB ha _ => h2 B xs M Φ Ψ hB ha⟩
theorem fnatXC {P : Program} {w : World} {K : PySem.W.Frag} {mg : Str → Option Value} {base : Heap} {k : Nat} {x : Str} {st : Stmt} {ps N : List Str} {asp : ASp} {kws : List KwE} {c : Addr} (D : DefAtC K mg x st ps c kws) (S : FnScope N ps (defScope st)) (len : ∀ xs M Φ Ψ, asp xs M Φ Ψ → xs.length = ps.length)
    (hbody : ∀ (f : Addr) (A : Around) (outer : List Env) (s : Shared) (H : Hp) (E : XK), Room k (A.deeper (envOfC x (defScope st) s.heap.objs.size f (.ref c))) →
      ∃ t, PSs (cxOf (L2.CX P w) P w K mg base N x (defScope st) f (.ref c) A outer s H E) (defBody st) t ∧ ∀ (B : Base) xs M Φ Ψ, B.μ0.length = M.length → asp xs M Φ Ψ → EFits B K (XT M.length Ψ) E → AS B K t (startA N xs) M (defEnds M.length Φ)) : FnAt P w K mg base (L2.CX P w) (k + 1) x ps asp kws := by
  obtain ⟨f, oc, od, kV, doc, pm, an, ct, osl, lk, hcd, hm, kp, hb, hk⟩ := D.ex
  refine ⟨f, _, fn_of lk hcd S (fun vs H Q E h => ?_) (fun A outer s H vs Q E hr h => ?_), hm, kp, hb, hk⟩
  · obtain ⟨W, μ, M, xs, _, r, ha⟩ := h
    rw [← r.length]; exact len _ _ _ _ ha
  · obtain ⟨t, h1, h2⟩ := hbody f A outer s H E hr
    exact ⟨t, h1, conc_body (B0 := Unit) h h2⟩
end Al

/-! the facts of the top, put together -/
namespace Fx
open PySem PyProof.Rows L2 Al Gx
variable [Al.TabList]
theorem law_callT {P : Program} {w : World} {K : PySem.W.Frag} {mg mb : Str → Option Value} {CX : CXT} {k : Nat} {fa a : Addr} {cs : List (Addr × Addr)} {x : Str} {sp : Sp} {s₁ : Shared} {vs : List Value} {ns : List Int}
    (KX : K.In s₁.heap) (hns : s₁.heap.Ns mainGlobals mg) (hb : s₁.heap.Ns builtinsNs mb) (hbb : ∀ x : Str, x ≠ "__name__" → mb x = bootBuiltins x) (hlim : s₁.heap.NoLimit) (hg : s₁.gens = #[])
    (hT : ∀ p ∈ cs, s₁.heap.get? p.2 = some { cls := .none, data := .fields #[] }) (nT : ∀ p ∈ cs, K.lookup p.2 = none) (C : ∀ p ∈ cs, PySem.W.CodeHd s₁.heap p.1 p.2)
    (hbm : ∃ (bm : Addr) (ob : Obj), mg "__builtins__" = some (.ref bm) ∧ bm ≠ builtinsNs ∧ s₁.heap.get? bm = some ob ∧ ob.cls = .type "module" ∧ ob.dict = some builtinsNs ∧ ob.data = .plain)
    (ha : s₁.heap.get? a = some { cls := .type "list", data := .seq vs.toArray }) (hi : IntsAre vs ns) (hl : ns.length ≤ sizeLine) (hr : Room k callerA)
    (F : ∀ base : Heap, K.In base → base.Ns mainGlobals mg → (∀ p ∈ cs, LamX.TabB base mg p.1 p.2) → ∃ fd : FuncData, FnOkG P w K mg base CX k fa fd [x] sp ∧ Binds K fd [x] [])
    (hsp : ∀ H : Hp, (∀ p ∈ cs, H p.2 = some (.tbl #[])) → SqL K H a (ns.map V.int) → sp [.ref a] H (fun v _ => v = .bl true) fun _ _ _ => False)
    (hCX : ∀ H e s', CX [] H s₁ (fun _ _ _ => False) e s' → False) :
    codeAny (model P w) callerA (.call (.ref fa) ⟨[.ref a], []⟩) (fun r s' => r = .ok (.ret (.bool true)) ∧ OldK s₁.heap s'.heap ∧ s'.os = s₁.os ∧ AllBare s'.gens) s₁ := by
  have rv := vals_ints hi
  have lenV := hi.length
  have isT : ∀ b : Addr, b ∈ cs.map (·.2) → s₁.heap.get? b = some { cls := .none, data := .fields #[] } := fun b hb => by
    obtain ⟨p, hp, e⟩ := List.mem_map.mp hb
    rw [← e]
    exact hT p hp
  have aT : a ∉ cs.map (·.2) := fun z => by
    have q := isT a z
    rw [ha] at q
    have z' : Data.seq vs.toArray _ = Data.fields #[] := congrArg Obj.data (Option.some.inj q)
    cases z'
  have memT : ∀ p ∈ cs, p.2 ∈ cs.map (·.2) := fun p hp => List.mem_map.mpr ⟨p, hp, rfl⟩
  -- from an abstract heap in which nothing but the script and the tables may be tracked
  have core : ∀ H : Hp, (∀ p ∈ cs, H p.2 = some (.tbl #[])) → (∀ b, H b = none ∨ b ∈ cs.map (·.2) ∨ ∃ o xs, H b = some (.frz o (.lst xs))) → SqL K H a (ns.map V.int) → HOk P w H s₁.heap → (∀ b, H b ≠ none → b = a ∨ b ∈ cs.map (·.2)) → (H a ≠ none → K.lookup a = none) →
      codeAny (model P w) callerA (.call (.ref fa) ⟨[.ref a], []⟩) (fun r s' => r = .ok (.ret (.bool true)) ∧ OldK s₁.heap s'.heap ∧ s'.os = s₁.os ∧ AllBare s'.gens) s₁ := by
    intro H hH hO hS hok hA hK
    have base_of : ∀ {b : Addr} {o : Obj}, s₁.heap.get? b = some o → H b = none → (hidT s₁.heap H).get? b = some o := fun e n => hidT_get e n
    have noD : ∀ {b : Addr} {o : Obj}, s₁.heap.get? b = some o → (∀ vs n, o.data ≠ .seq vs n) → o.data ≠ .fields #[] → H b = none := fun {b o} e h1 h2 => by
      cases q : H b with
      | none => rfl
      | some u =>
        rcases hA b (by rw [q]; simp) with e' | e'
        · rw [e', ha] at e
          cases e
          exact (h1 _ _ rfl).elim
        · rw [isT b e'] at e
          cases e
          exact (h2 rfl).elim
    have noA : ∀ {b : Addr} {o : Obj} {es : Array DictEntry} {ep : Nat}, s₁.heap.get? b = some o → o.data = .dict es ep → H b = none := fun {b o es ep} e d => by
      refine noD e (fun vs n z => ?_) fun z => ?_
      · rw [d] at z
        cases z
      · rw [d] at z
        cases z
    have nsK : ∀ {b : Addr} {m : Str → Option Value}, s₁.heap.Ns b m → (hidT s₁.heap H).Ns b m := fun {b m} ⟨o, es, ep, e, d, r⟩ => ⟨o, es, ep, base_of e (noA e d), d, r⟩
    have hKb : K.In (hidT s₁.heap H) := fun b o e => base_of (KX b o e) (by
      cases q : H b with
      | none => rfl
      | some u =>
        rcases hA b (by rw [q]; simp) with e' | e'
        · rw [e'] at e q
          rw [hK (by rw [q]; simp)] at e
          cases e
        · obtain ⟨p, hp, ep⟩ := List.mem_map.mp e'
          rw [← ep, nT p hp] at e
          cases e)
    have hM : L2.Mod K mg (hidT s₁.heap H) := ⟨hKb, nsK hns, ⟨mb, nsK hb, hbb⟩, let ⟨mc, h1, h2⟩ := hlim; ⟨mc, nsK h1, h2⟩⟩
    have TB : ∀ p ∈ cs, LamX.TabB (hidT s₁.heap H) mg p.1 p.2 := fun p hp => by
      have hTp := hT p hp
      refine ⟨?_, ?_, fun z => ?_⟩
      · obtain ⟨o, us, file, tf, flags, tg, inF, text, tt, e1, r1, r2, r3, r4, r5, r6, r7, r8, hne⟩ := C p hp
        refine ⟨o, us, file, tf, flags, tg, inF, text, tt, base_of e1 (noD e1 (fun vs n z => ?_) fun z => ?_), r1, r2, r3, r4, r5, r6, r7, r8, hne⟩
        · rw [r2] at z
          cases z
        · rw [r2] at z
          cases z
          simp at r3
      · obtain ⟨bm, ob, b1, b2, b3, b4, b5, b6⟩ := hbm
        have nG : bm ≠ mainGlobals := fun q => by
          obtain ⟨o, es, ep, e, hd, _⟩ := hns
          rw [q, e] at b3
          cases b3
          rw [hd] at b6
          cases b6
        have nP : bm ≠ p.2 := fun q => by
          rw [q, hTp] at b3
          cases b3
          cases b6
        refine ⟨bm, ob, b1, b2, nG, nP, base_of b3 (noD b3 (fun vs n z => ?_) fun z => ?_), b4, b5, b6⟩
        · rw [b6] at z
          cases z
        · rw [b6] at z
          cases z
      · obtain ⟨o, es, ep, e, hd, _⟩ := hns
        rw [z, hTp] at e
        cases e
        cases hd
    have e0 : Env0 P w K mg (hidT s₁.heap H) callerA [] s₁ H := ⟨rfl, hM, fun b o e => of_hidT e, Nat.le_of_eq (hidT_size _ _), trivial, fun b hb => absurd (show b ∈ ([] : List Addr) from hb) (by simp), hok, .of_eq hg⟩
    obtain ⟨fd, FF, hbind⟩ := F _ hKb (nsK hns) TB
    refine codeAny_mono (FF.run callerA [] s₁ H ⟨[.ref a], []⟩ [.ref a] [.ref a] _ _ rfl hr e0 (hbind s₁ [.ref a] KX rfl) (.cons rfl .nil) (hsp H hH hS)) fun r s' h => ?_
    cases r with
    | error e => exact (hCX H e s' h).elim
    | ok fl =>
      cases fl with
      | next => exact False.elim h
      | brk => exact False.elim h
      | cont => exact False.elim h
      | ret u =>
        obtain ⟨v, H', os, bare, un, hok', r', q⟩ := h
        have q' : v = .bl true := q
        subst q'
        obtain rfl : u = Value.bool true := r'
        have key : ∀ b o, b ∉ cs.map (·.2) → s₁.heap.get? b = some o → s'.heap.get? b = some o := fun b o nb e => by
          cases q : H b with
          | none => exact un.keep b o e q (by intro z; exact absurd (show b ∈ ([] : List Addr) from z) (by simp)) (by simp)
          | some u =>
            rcases hO b with z | z | ⟨ob, xs, z⟩
            · rw [q] at z; cases z
            · exact absurd z nb
            · have z2 := un.frzs b ob _ z
              obtain ⟨e1, _⟩ := hok b _ z
              obtain ⟨e2, _⟩ := hok' b _ z2
              rw [e] at e1; cases e1
              exact e2
        have grown : ∀ p ∈ cs, ∃ more : Array Value, s'.heap.get? p.2 = some { cls := .none, data := .fields more } := fun p hp => by
          obtain ⟨more, z⟩ := un.tbls p.2 #[] (hH p hp)
          exact ⟨_, hok' p.2 _ z⟩
        refine ⟨rfl, ⟨fun b o e => ?_, fun b o e => ?_⟩, os, bare⟩
        · by_cases hb : b ∈ cs.map (·.2)
          · obtain ⟨p, hp, ep⟩ := List.mem_map.mp hb
            obtain ⟨more, hm⟩ := grown p hp
            rw [← ep] at e ⊢
            rw [hT p hp] at e
            cases e
            exact .inr (.inl ⟨((C p hp).tab (hT p hp)).isCodeTable, rfl, #[], more, rfl, by rw [Array.empty_append]; exact hm⟩)
          · exact .inl (key b o hb e)
        · by_cases hb : b ∈ cs.map (·.2)
          · obtain ⟨p, hp, ep⟩ := List.mem_map.mp hb
            obtain ⟨more, hm⟩ := grown p hp
            rw [← ep]
            exact ⟨_, hm⟩
          · exact ⟨o, key b o hb e⟩
  cases hk : K.lookup a with
  | some o =>
    have e := KX a o hk
    rw [ha] at e
    cases e
    refine core (fun b => if b ∈ cs.map (·.2) then some (.tbl #[]) else none) (fun p hp => if_pos (memT p hp)) (fun b => ?_) (.inr ⟨_, vs.toArray, _, hk, rfl, rfl, rfl, by rw [List.size_toArray, lenV]; exact hl, by simpa using rv⟩) (fun b u z => ?_) (fun b z => ?_) fun z => absurd (show (if a ∈ cs.map (·.2) then some (HO.tbl #[]) else none) = none from if_neg aT) z
    · by_cases hb : b ∈ cs.map (·.2)
      · exact .inr (.inl hb)
      · exact .inl (if_neg hb)
    · by_cases hb : b ∈ cs.map (·.2)
      · have z' := (if_pos hb).symm.trans z
        cases z'
        exact isT b hb
      · have z' := (if_neg hb).symm.trans z
        cases z'
    · by_cases hb : b ∈ cs.map (·.2)
      · exact .inr hb
      · exact absurd (if_neg hb) z
  | none =>
    refine core (fun b => if b = a then some (.frz { cls := .type "list", data := .seq vs.toArray } (.lst (ns.map V.int))) else if b ∈ cs.map (·.2) then some (.tbl #[]) else none) (fun p hp => (if_neg (show ¬ p.2 = a from fun z => aT (by rw [← z]; exact memT p hp))).trans (if_pos (memT p hp))) (fun b => ?_)
      (.inl (.inr ⟨{ cls := .type "list", data := .seq vs.toArray }, if_pos rfl⟩)) (fun b u z => ?_) (fun b z => ?_) fun _ => hk
    · by_cases hb : b = a
      · exact .inr (.inr ⟨_, _, if_pos hb⟩)
      · by_cases hb2 : b ∈ cs.map (·.2)
        · exact .inr (.inl hb2)
        · exact .inl ((if_neg hb).trans (if_neg hb2))
    · by_cases hb : b = a
      · have z' := (if_pos hb).symm.trans z
        cases z'
        rw [hb]
        exact ⟨ha, by rw [List.length_map]; exact hl, vs, _, rv, ha⟩
      · have z1 := (if_neg hb).symm.trans z
        by_cases hb2 : b ∈ cs.map (·.2)
        · have z' := (if_pos hb2).symm.trans z1
          cases z'
          exact isT b hb2
        · have z' := (if_neg hb2).symm.trans z1
          cases z'
    · by_cases hb : b = a
      · exact .inl hb
      · by_cases hb2 : b ∈ cs.map (·.2)
        · exact .inr hb2
        · exact absurd ((if_neg hb).trans (if_neg hb2)) z
def aLawS : ASp := fun xs M Φ _ => ∃ ns : List Int, xs = [.d (.scr (ns.map D.int))] ∧ M = [] ∧ ns.length ≤ 63 ∧ Φ (.d (.bl true)) []
/-- all that is tracked but the tables -/
def noTab (H : Hp) : Hp := fun a => match H a with | some (.tbl _) => none | o => o
theorem noTab_sub {H : Hp} : Same (noTab H) H := fun a o h => by
  unfold noTab at h
  split at h
  · cases h
  · exact h
theorem noTab_of {H : Hp} {a : Addr} {o : HO} (h : H a = some o) (n : ∀ ps, o ≠ .tbl ps) : noTab H a = some o := by
  unfold noTab
  split
  · rename_i ps e
    rw [h] at e
    exact absurd (Option.some.inj e) (n ps)
  · exact h
theorem walk_ofA {l : PySem.W.OpenLaw} {k : Nat} {q : Program} {loose : List Str} {XP : (Str → Option Value) → Heap → Prop} {YP : World → Heap → Prop} {d : DefRec} {K : Params → PySem.W.Frag} {x : Str}
    (hn : l.most = some 63) (hdf : d.params.defaults = []) (hr : Room k callerA)
    (hY : ∀ (w : World) (h : Heap), YP w h → (K w.params).In h)
    (hT : ∀ (w : World) (h : Heap), YP w h → (K w.params).In h → ∀ p ∈ TabList.l, h.get? p.2.1 = some { cls := .none, data := .fields #[] } ∧ (K w.params).lookup p.2.1 = none ∧ PySem.W.CodeHd h p.1 p.2.1)
    (F : ∀ (w : World) (mg : Str → Option Value) (fa : Addr) (h : Heap), (K w.params).In h → h.Ns mainGlobals mg → mg d.name = some (.ref fa) →
        ∀ base : Heap, (K w.params).In base → base.Ns mainGlobals mg → (∀ p ∈ TabList.l, LamX.TabB base mg p.1 p.2.1) → FnAtG l.prog w (K w.params) mg base CX0 k d.name [x] aLawS) :
    PySem.W.WalkO q loose XP YP l.row.toRowW d [] (fun f vs => PySem.call f vs) := by
  refine Att.attach_call hn hdf fun w s₀ s₁ mg mb fa o pm cd doc a vs ns G Y ho hd hcd hmg hobj hints hlen hg => ?_
  have KX := hY w _ Y
  have hTT := hT w _ Y KX
  have mem : ∀ p ∈ (TabList.l.map fun p : Addr × Addr × Str => (p.1, p.2.1)), ∃ q ∈ TabList.l, p = (q.1, q.2.1) := fun p hp => by
    obtain ⟨q, hq, e⟩ := List.mem_map.mp hp
    exact ⟨q, hq, e.symm⟩
  refine law_callT (cs := TabList.l.map fun p : Addr × Addr × Str => (p.1, p.2.1)) (CX := CX0) (x := x) KX G.T.g G.T.b G.T.builtins G.T.nolimit hg (fun p hp => ?_) (fun p hp => ?_) (fun p hp => ?_) G.T.bmain hobj hints (Nat.le_trans hlen (by decide)) hr (sp := conc (K w.params) aLawS) (fun base hb hbg hTB => ?_) (fun H hH hS => ?_) fun H e s' z => z
  · obtain ⟨q, hq, rfl⟩ := mem p hp; exact (hTT q hq).1
  · obtain ⟨q, hq, rfl⟩ := mem p hp; exact (hTT q hq).2.1
  · obtain ⟨q, hq, rfl⟩ := mem p hp; exact (hTT q hq).2.2
  · obtain ⟨f, fd, FF, hm, _, hB⟩ := (F w mg fa _ KX G.T.g hmg base hb hbg fun p hp => hTB _ (List.mem_map.mpr ⟨p, hp, rfl⟩)).ex
    have e := hmg.symm.trans hm
    cases e
    exact ⟨fd, FF, hB⟩
  · have hS' : SqL (K w.params) (noTab H) a (ns.map V.int) := by
      rcases hS with (h | ⟨o, h⟩) | h
      · exact .inl (.inl (noTab_of h fun _ z => nomatch z))
      · exact .inl (.inr ⟨o, noTab_of h fun _ z => nomatch z⟩)
      · exact .inr h
    have hH' : ∀ p ∈ TabList.l, H p.2.1 = some (.tbl #[]) := fun p hp => hH (p.1, p.2.1) (List.mem_map.mpr ⟨p, hp, rfl⟩)
    refine ⟨noTab H, [], [], [.d (.scr (ns.map D.int))], ⟨noTab_sub, by simp, rfl, by simp, by simp, fun p hp => .nil (hH' p hp), fun p hp => by unfold noTab; rw [hH' p hp]⟩, ras_cons (x := .d (.scr (ns.map D.int))) ⟨a, _, rfl, hS', RDs.of_ints ns⟩ ras_nil, ns, rfl, rfl, hlen, fun W' μ' H' v _ r => r⟩
def BindF (x qual : Str) (st : Stmt) (ps : List Str) : Prop := ∀ (kV doc pm : Value) (an : Option Addr) (cdv ct : Value) (us : List Value), us.length = ps.length → bindArgs (PySem.W.fnOf x qual (defArgs st) (defBody st) (defScope st) .none kV doc pm an cdv ct) ⟨us, []⟩ = pure (ps.zip us)
def BindK (x qual : Str) (st : Stmt) (ps : List Str) (e : KwE) : Prop := ∀ (kV doc pm : Value) (an : Option Addr) (cdv ct : Value) (us ws : List Value), us.length = e.1 → ws.length = e.2.1.length →
  bindArgs (PySem.W.fnOf x qual (defArgs st) (defBody st) (defScope st) .none kV doc pm an cdv ct) ⟨us, e.2.1.zip ws⟩ = pure (ps.zip (pick e.2.2 us [] [] ws))
theorem BindK.ok {K : PySem.W.Frag} {x qual : Str} {st : Stmt} {ps : List Str} {e : KwE} {f : Addr} {fd : FuncData} (F : Fun K x qual st f fd) (h : BindK x qual st ps e) : KwOk K fd ps e := by
  obtain ⟨oc, od, kV, doc, pm, an, cdv, ct, osl, rfl, lk, hcd⟩ := F.ex
  exact ⟨fun s us ws _ l1 l2 => .of_eq (h kV doc pm an cdv ct us ws l1 l2), fun r1 r2 => pick_rel e.2.2 r1 .nil .nil r2⟩
section
variable {K : PySem.W.Frag} {h : Heap} {mg : Str → Option Value} {x qual m : Str} {st : Stmt} {ps : List Str} {kws : List KwE} {f C : Addr} {oc : Value} {od an : Option Addr} {sl : Array (Option Value)} {kV dc pm cd ct : Value}
theorem defat_mk (X : K.In h) (G : h.Ns mainGlobals mg) (a : PySem.W.nsIn K mainGlobals x = some (some (.ref f))) (l : K.lookup f = some ⟨oc, od, .func (PySem.W.fnOf x x (defArgs st) (defBody st) (defScope st) .none kV dc pm an cd ct), sl⟩)
    (c : PySem.W.codeIn K cd x = true) (k : PySem.W.keepIn K (.ref f) = true) (hb : BindF x x st ps) (hk : ∀ e ∈ kws, BindK x x st ps e) : DefAt K mg x st ps kws :=
  have F := fun_mk (st := st) l c k
  ⟨f, _, F, PySem.W.mg_of X G a, F.binds hb, fun e he => (hk e he).ok F⟩
theorem defatC_mk {c : Addr} (X : K.In h) (G : h.Ns mainGlobals mg) (a : PySem.W.nsIn K mainGlobals x = some (some (.ref f))) (l : K.lookup f = some ⟨oc, od, .func (PySem.W.fnOf x x (defArgs st) (defBody st) (defScope st) .none kV dc pm an (.ref c) ct), sl⟩)
    (cc : PySem.W.codeIn K (.ref c) x = true) (k : PySem.W.keepIn K (.ref f) = true) (hb : BindF x x st ps) (hk : ∀ e ∈ kws, BindK x x st ps e) : DefAtC K mg x st ps c kws :=
  have F := fun_mk (st := st) l cc k
  ⟨f, oc, od, kV, dc, pm, an, ct, sl, l, cc, PySem.W.mg_of X G a, k, F.binds hb, fun e he => by
    have h0 := hk e he
    exact ⟨fun s us ws _ l1 l2 => .of_eq (h0 kV dc pm an (.ref c) ct us ws l1 l2), fun r1 r2 => pick_rel e.2.2 r1 .nil .nil r2⟩⟩
theorem methdef_mk (a : PySem.W.findIn K (.ref C) m = some (some (.ref f))) (i : PySem.W.isFn K (.ref f) = true) (l : K.lookup f = some ⟨oc, od, .func (PySem.W.fnOf m qual (defArgs st) (defBody st) (defScope st) .none kV dc pm an cd ct), sl⟩)
    (c : PySem.W.codeIn K cd qual = true) (k : PySem.W.keepIn K (.ref f) = true) (hb : BindF m qual st ps) (hk : ∀ e ∈ kws, BindK m qual st ps e) : MethDef K C m qual st ps kws :=
  have F := fun_mk (st := st) l c k
  ⟨f, _, F, ⟨a, i, k⟩, F.binds hb, fun e he => (hk e he).ok F⟩
theorem mkdef_mk (X : K.In h) (G : h.Ns mainGlobals mg) (aC : PySem.W.nsIn K mainGlobals x = some (some (.ref C))) (mk : PySem.W.makesIn K C = true) (kc : PySem.W.keepIn K (.ref C) = true)
    (a : PySem.W.findIn K (.ref C) "__init__" = some (some (.ref f))) (i : PySem.W.isFn K (.ref f) = true) (l : K.lookup f = some ⟨oc, od, .func (PySem.W.fnOf "__init__" qual (defArgs st) (defBody st) (defScope st) .none kV dc pm an cd ct), sl⟩)
    (c : PySem.W.codeIn K cd qual = true) (k : PySem.W.keepIn K (.ref f) = true) (hb : BindF "__init__" qual st ps) (hk : ∀ e ∈ kws, BindK "__init__" qual st ps e) : MkDef K mg C x qual st ps kws :=
  have F := fun_mk (st := st) l c k
  ⟨f, _, F, ⟨mk, a, i, kc⟩, PySem.W.mg_of X G aC, F.binds hb, fun e he => (hk e he).ok F⟩
end
/-! own exceptions -/
section
open PySem.W
variable {K : Frag} {h : Heap} {mg : Str → Option Value} {C : Addr} {bm : List Value} {newId : String} {dd : Option Addr} {cd : ClassData} {sl : Array (Option Value)}
def initB (C : Addr) (cd : ClassData) (sl : Array (Option Value)) (bmB : List Value) (newId : String) : Bool := match cd.mro, sl.toList with
  | .ref C' :: bm, [_, _, _, _, some (.builtin n), _] => C' == C && n == newId && !cd.hasDel && excTail bmB bm
  | _, _ => false
def overB (C : Addr) (cd : ClassData) (bmB : List Value) : Bool := match cd.mro with | .ref C' :: bm => C' == C && excTail bmB bm | _ => false
theorem excInit_mk (l : K.lookup C = some ⟨.type "type", dd, .cls cd, sl⟩) (q : initB C cd sl bm newId = true) : excInitIn K C bm newId = true := by
  unfold excInitIn
  rw [l]
  exact q
theorem excOver_mk (l : K.lookup C = some ⟨.type "type", dd, .cls cd, sl⟩) (q : overB C cd bm = true) : excOver K C bm = true := by
  unfold excOver clsIn
  rw [l]
  exact q
theorem gexc_mk {B initId : String} (FB : BaseX B newId initId bm) (l : K.lookup C = some ⟨.type "type", dd, .cls cd, sl⟩) (q : initB C cd sl bm newId = true) (q2 : overB C cd bm = true) (hd : hasDictIn K C = true)
    (sa : findIn K (.ref C) "__setattr__" = some (some (.builtin "object.__setattr__"))) (ex : subIn K (.ref C) (.type "BaseException") = some true) (ty : typeIn K (.ref C) = some (.type "type")) (kc : keepIn K (.ref C) = true) : GexC K C :=
  ⟨⟨B, newId, initId, bm, FB, excInit_mk l q, excOver_mk l q2⟩, hd, sa, ex, ty, kc⟩
theorem exk_mk (ga : findIn K (.ref C) "__getattribute__" = some (some (.builtin "BaseException.__getattribute__"))) (gg : findIn K (.ref C) "__getattr__" = some none) (ex : subIn K (.ref C) (.type "BaseException") = some true) (hd : hasDictIn K C = true)
    (ha : findIn K (.ref C) "__class__" = some (some (.builtin "object.__class__"))) (hn : specialIn K (.builtin "object.__class__") "__get__" = some (some (.builtin "getset_descriptor.__get__"))) (ht : takesIn K (.builtin "object.__class__") = some true) (hm : mroIn K C (.type "object") = some true) : ExK K C :=
  ⟨⟨ga, gg, ex, hd⟩, ha, hn, ht, hm⟩
theorem bx_ValueError : BaseX "ValueError" "ValueError.__new__" "ValueError.__init__" [.type "ValueError", .type "Exception", .type "BaseException", .type "object"] := ⟨PySem.F.excBase_ValueError, PySem.F.store_ValueError⟩
theorem bx_IndexError : BaseX "IndexError" "IndexError.__new__" "IndexError.__init__" [.type "IndexError", .type "LookupError", .type "Exception", .type "BaseException", .type "object"] := ⟨PySem.F.excBase_IndexError, PySem.F.store_IndexError⟩
theorem bx_TypeError : BaseX "TypeError" "TypeError.__new__" "TypeError.__init__" [.type "TypeError", .type "Exception", .type "BaseException", .type "object"] := ⟨PySem.F.excBase_TypeError, PySem.F.store_TypeError⟩
theorem bx_ArithmeticError : BaseX "ArithmeticError" "ArithmeticError.__new__" "ArithmeticError.__init__" [.type "ArithmeticError", .type "Exception", .type "BaseException", .type "object"] := ⟨PySem.F.excBase_ArithmeticError, PySem.F.store_ArithmeticError⟩
theorem bx_OverflowError : BaseX "OverflowError" "OverflowError.__new__" "OverflowError.__init__" [.type "OverflowError", .type "ArithmeticError", .type "Exception", .type "BaseException", .type "object"] := ⟨PySem.F.excBase_OverflowError, PySem.F.store_OverflowError⟩
theorem bx_LookupError : BaseX "LookupError" "LookupError.__new__" "LookupError.__init__" [.type "LookupError", .type "Exception", .type "BaseException", .type "object"] := ⟨PySem.F.excBase_LookupError, PySem.F.store_LookupError⟩
theorem xcat_mk {P : Program} {w : World} {x : Str} {fs : List Str} {fI : Addr} (X : K.In h) (G : h.Ns mainGlobals mg) (aC : nsIn K mainGlobals x = some (some (.ref C))) (T : GexC K C) (few : fs.length ≤ 1000) (iC : findIn K (.ref C) "__init__" = some (some (.ref fI)))
    (tI : typeIn K (.ref fI) = some (.type "function")) (hI : Inits P w K C fI fs) : XcAt P w K mg C x fs := ⟨T, mg_of X G aC, few, fI, iC, tI, hI⟩
theorem exm_self (ex : subIn K (.ref C) (.type "BaseException") = some true) (hd : hasDictIn K C = true) (ty : typeIn K (.ref C) = some (.type "type")) (ss : subIn K (.ref C) (.ref C) = some true) : exmOne K (.ref C) (.ref C) = some true := by
  have hc : (clsIn K C).isSome = true := by
    unfold hasDictIn at hd
    cases e : clsIn K C with
    | some cd => rfl
    | none => rw [e] at hd; cases hd
  unfold exmOne
  rw [if_pos (by rw [ex]; rfl)]
  unfold kitCls
  dsimp only
  rw [hc, ty, if_pos (by rfl)]
  exact ss
theorem kit_ty {t : Value} {T : String} {b : Bool} (n : (t == Value.type T) = false) (km : kitMeta T = true) (s : subIn K t (.type T) = some b) : kitOne K t (.type T) = some b := by
  unfold kitOne
  rw [if_neg (by rw [n]; simp)]
  unfold kitCls
  dsimp only
  rw [if_pos km]
  exact s
theorem kit_ref {t : Value} {D : Addr} {b : Bool} (n : (t == Value.ref D) = false) (hd : hasDictIn K D = true) (ty : typeIn K (.ref D) = some (.type "type")) (s : subIn K t (.ref D) = some b) : kitOne K t (.ref D) = some b := by
  have hc : (clsIn K D).isSome = true := by
    unfold hasDictIn at hd
    cases e : clsIn K D with
    | some cd => rfl
    | none => rw [e] at hd; cases hd
  unfold kitOne
  rw [if_neg (by rw [n]; simp)]
  unfold kitCls
  dsimp only
  rw [hc, ty, if_pos (by rfl)]
  exact s
theorem kit_nil {t : Value} : kitAny K t [] = some false := rfl
theorem kit_cons {t c : Value} {r : List Value} {b : Bool} (h1 : kitOne K t c = some false) (h2 : kitAny K t r = some b) : kitAny K t (c :: r) = some b := by
  unfold kitAny
  rw [h1]
  exact h2
end
end Fx

/-! for i, x in enumerate(a tuple) -/
namespace EnT
open PySem PySem.Spec PyProof.Rows L2
open AutoSeq1 (wpAny_loadPart')
section
variable {prog : Program} {w : World} {A : Around} {E : Value → Shared → Prop} {s : Shared}
theorem meets_enumerate_newT (l : Addr) (items : Array Value) (n : Nat) (dct : Option Addr) (sl : Array (Option Value)) :
    Meets (Builtin.«enumerate.__new__» ⟨[.type "enumerate", .ref l], []⟩) (fun _ R s => s.heap.get? l = some { cls := .type "tuple", dict := dct, data := .seq items n, slots := sl } ∧
      R (.ok (.ret (.ref (s.heap.push { cls := .type "tuple_iterator", data := .fields #[.ref l, .int 0 0] }).objs.size)))
        { s with heap := (s.heap.push { cls := .type "tuple_iterator", data := .fields #[.ref l, .int 0 0] }).push { cls := .type "enumerate", data := .fields #[.none, .bool false, .ref s.heap.objs.size, rawInt 0, .none, .none] } }) :=
  .of_wp fun prog w A R s h => by
    obtain ⟨hp, g, d, tk, os⟩ := s; obtain ⟨hl, h⟩ := h
    have hsub := sub_enumerate
    have hL : Heap.IsTuple (Shared.heap ⟨hp, g, d, tk, os⟩) l items := ⟨_, hl, rfl, n, rfl⟩
    wp_walk using wpAny_loadPart' hl
    refine wpAny_stack_any fun st => wpAny_pure ?_
    split
    · rename_i c _ _ _ _ _
      cases (c == Value.type "enumerate")
      · wp_walk using wpAny_loadPart' hl, wpAny_pyIter_tuple hL
        exact ⟨_, rfl, h⟩
      · wp_walk using wpAny_loadPart' hl, wpAny_pyIter_tuple hL
        exact ⟨_, rfl, h⟩
    · wp_walk using wpAny_loadPart' hl, wpAny_pyIter_tuple hL
      exact ⟨_, rfl, h⟩

theorem call_enumT {l : Addr} {items : Array Value} {Q : Value → Shared → Prop} (hL : s.heap.IsTuple l items)
    (h : ∀ h', IsEnum h' (s.heap.objs.size + 1) s.heap.objs.size 0 .none → h'.IsTupleIter s.heap.objs.size l 0 → h'.objs.size = s.heap.objs.size + 2 →
      (∀ b o, s.heap.get? b = some o → h'.get? b = some o) → Q (.ref (s.heap.objs.size + 1)) { s with heap := h' }) :
    wpAny (model prog w) A (call (.type "enumerate") [.ref l]) Q E s := by
  obtain ⟨⟨c, dct, dt, sl⟩, hl, hc, n, hd⟩ := hL
  replace hc : c = .type "tuple" := hc
  replace hd : dt = .seq items n := hd
  subst hc hd
  refine callType_new F.called_enumerate (by decide) (F.typeCall_enumerate_1 _) (F.newCall_enumerate_1 _) (fun obj => F.args_object_init_2 obj _) F.entry_enumerate_new
    (meets_enumerate_newT l items n dct sl) ⟨hl, ?_⟩
  have hz : (s.heap.push { cls := .type "tuple_iterator", data := .fields #[.ref l, .int 0 0] }).objs.size = s.heap.objs.size + 1 := Heap.size_push ..
  show _ ∧ _
  rw [hz]
  have he : IsEnum ((s.heap.push { cls := .type "tuple_iterator", data := .fields #[.ref l, .int 0 0] }).push
      { cls := .type "enumerate", data := .fields #[.none, .bool false, .ref s.heap.objs.size, rawInt 0, .none, .none] }) (s.heap.objs.size + 1) s.heap.objs.size 0 .none := by
    have := Heap.get?_push_size (s.heap.push { cls := .type "tuple_iterator", data := .fields #[.ref l, .int 0 0] })
      (o := { cls := .type "enumerate", data := .fields #[.none, .bool false, .ref s.heap.objs.size, rawInt 0, .none, .none] }) rfl
    rw [hz] at this; exact this
  refine ⟨⟨_, he, rfl⟩, h _ he ⟨_, Heap.get?_push_of_some _ (Heap.get?_push_size _ rfl), rfl, rfl⟩ (by rw [Heap.size_push, hz]) fun b o x => Heap.get?_push_of_some _ (Heap.get?_push_of_some _ x)⟩

theorem enumT_next_item {e it l : Addr} {i : Nat} {items : Array Value} {x old : Value} {Q : Value → Shared → Prop}
    (he : IsEnum s.heap e it i old) (hit : s.heap.IsTupleIter it l i) (hl : s.heap.IsTuple l items) (hx : items[i]? = some x) (hne : e ≠ it)
    (hQ : ∀ h', IsEnumOut h' e it ((i : Int) + 1) x s.heap.objs.size → h'.IsTupleIter it l (i + 1) →
      h'.get? s.heap.objs.size = some { cls := .type "tuple", data := .seq #[.int i s.toks, x] } → h'.objs.size = s.heap.objs.size + 1 →
      (∀ b o, b ≠ e → b ≠ it → s.heap.get? b = some o → h'.get? b = some o) → Q (.ref s.heap.objs.size) { s with heap := h', toks := s.toks + 1 }) :
    wpAny (model prog w) A (Builtin.«enumerate.__next__» ⟨[.ref e], []⟩) (fun fin s' => ∃ v, fin = .done (.ret v) ∧ Q v s') E s := by
  obtain ⟨hp, g, d, tk, os⟩ := s
  show wpAny _ _ (field (.ref e) 2 >>= _) _ _ _
  refine wpAny_bind (wpAny_field he rfl (x := .ref it) rfl ?_)
  refine wpAny_bind (wpAny_nextOf_tuple_item hit hl hx fun h₁ hit₁ hs₁ => ?_)
  replace hs₁ : Heap.SameBut it hp h₁ := hs₁
  have he₁ : IsEnum h₁ e it i old := (hs₁.2 e hne).trans he
  show wpAny _ _ (field (.ref e) 3 >>= _) _ _ ⟨h₁, g, d, tk, os⟩
  refine wpAny_bind (wpAny_field he₁ rfl (x := rawInt i) rfl ?_)
  show wpAny _ _ (field (.ref e) 4 >>= _) _ _ ⟨h₁, g, d, tk, os⟩
  refine wpAny_bind (wpAny_field he₁ rfl (x := .none) rfl ?_)
  show wpAny _ _ (mkInt i >>= _) _ _ ⟨h₁, g, d, tk, os⟩
  refine wpAny_bind (wpAny_mkInt ?_)
  show wpAny _ _ (setField (.ref e) 3 (rawInt ((i : Int) + 1)) >>= _) _ _ ⟨h₁, g, d, tk + 1, os⟩
  refine wpAny_bind (wpAny_setField_rec he₁ (by simp) fun h₂ he₂ hs₂ => ?_)
  replace hs₂ : Heap.SameBut e h₁ h₂ := hs₂
  replace he₂ : IsEnum h₂ e it ((i : Int) + 1) old := he₂
  show wpAny _ _ (setField (.ref e) 4 .none >>= _) _ _ ⟨h₂, g, d, tk + 1, os⟩
  refine wpAny_bind (wpAny_setField_rec he₂ (by simp) fun h₃ he₃ hs₃ => ?_)
  replace hs₃ : Heap.SameBut e h₂ h₃ := hs₃
  replace he₃ : IsEnum h₃ e it ((i : Int) + 1) old := he₃
  show wpAny _ _ (newTuple [.int i tk, x] >>= _) _ _ ⟨h₃, g, d, tk + 1, os⟩
  refine wpAny_bind (wpAny_newTuple ?_)
  have he₄ : IsEnum (h₃.push { cls := .type "tuple", data := .seq #[.int i tk, x] }) e it ((i : Int) + 1) old := Heap.get?_push_of_some _ he₃
  generalize hh₄ : h₃.push { cls := .type "tuple", data := .seq #[.int i tk, x] } = h₄ at he₄
  have hsz : h₃.objs.size = hp.objs.size := by rw [hs₃.1, hs₂.1, hs₁.1]
  have hel : e < hp.objs.size := Heap.lt_size he
  have ht₄ : h₄.get? hp.objs.size = some { cls := .type "tuple", data := .seq #[.int i tk, x] } := by rw [← hh₄, ← hsz]; exact Heap.get?_push_size _ rfl
  have hz₄ : h₄.objs.size = hp.objs.size + 1 := by rw [← hh₄, Heap.size_push, hsz]
  have hk₄ : ∀ b o, b ≠ e → b ≠ it → hp.get? b = some o → h₄.get? b = some o := fun b o hbe hbi hb => by
    rw [← hh₄]; exact Heap.get?_push_of_some _ (hs₃.extBut b o hbe (hs₂.extBut b o hbe (hs₁.extBut b o hbi hb)))
  have hit₄ : h₄.IsTupleIter it l (i + 1) := by
    rw [← hh₄]; obtain ⟨o, ho, r⟩ := (hit₁.extBut hs₂.extBut (Ne.symm hne)).extBut hs₃.extBut (Ne.symm hne); exact ⟨o, Heap.get?_push_of_some _ ho, r⟩
  show wpAny _ _ (Builtin.SmallTypes.ownedTupleIsFree (.ref e) >>= _) _ _ ⟨h₄, g, d, tk + 1, os⟩
  rw [hsz]
  clear hh₄ he₃ hs₃ he₂ hs₂ he₁ hs₁ hit₁ hsz h₃ h₂ h₁
  refine wpAny_bind ?_
  · unfold Builtin.SmallTypes.ownedTupleIsFree
    refine wpAny_bind (wpAny_field he₄ rfl (x := .none) rfl (wpAny_pure ?_))
    simp only [if_true]
    refine wpAny_bind (wpAny_rule ?_)
    refine wpAny_bind (wpAny_field he₄ rfl (x := old) rfl ?_)
    refine wpAny_bind (wpAny_setField_rec he₄ (by simp) fun h₅ he₅ hs₅ => ?_)
    replace hs₅ : Heap.SameBut e h₄ h₅ := hs₅
    replace he₅ : IsEnum h₅ e it ((i : Int) + 1) x := he₅
    show wpAny _ _ (Builtin.SmallTypes.ownedTupleHandOut (.ref e) (.ref hp.objs.size) >>= _) _ _ ⟨h₅, g, d, tk + 1, os⟩
    refine wpAny_bind ?_
    · unfold Builtin.SmallTypes.ownedTupleHandOut
      refine wpAny_bind (wpAny_setField_rec he₅ (by simp) fun h₆ he₆ hs₆ => ?_)
      replace hs₆ : Heap.SameBut e h₅ h₆ := hs₆
      replace he₆ : IsEnumOut h₆ e it ((i : Int) + 1) x hp.objs.size := he₆
      refine wpAny_setField_rec he₆ (by simp) fun h₇ he₇ hs₇ => ?_
      replace hs₇ : Heap.SameBut e h₆ h₇ := hs₇
      replace he₇ : IsEnumOut h₇ e it ((i : Int) + 1) x hp.objs.size := he₇
      refine wpAny_bind (wpAny_letGo (wpAny_pure ⟨_, rfl, hQ h₇ he₇ ?_ ?_ ?_ ?_⟩))
      · exact ((hit₄.extBut hs₅.extBut (Ne.symm hne)).extBut hs₆.extBut (Ne.symm hne)).extBut hs₇.extBut (Ne.symm hne)
      · exact hs₇.extBut _ _ (Nat.ne_of_gt hel) (hs₆.extBut _ _ (Nat.ne_of_gt hel) (hs₅.extBut _ _ (Nat.ne_of_gt hel) ht₄))
      · rw [hs₇.1, hs₆.1, hs₅.1, hz₄]
      · exact fun b o hbe hbi hb => hs₇.extBut b o hbe (hs₆.extBut b o hbe (hs₅.extBut b o hbe (hk₄ b o hbe hbi hb)))

theorem enumT_item {e it l : Addr} {i : Nat} {items : Array Value} {x old : Value} {Q : Option Value → Shared → Prop}
    (he : IsEnum s.heap e it i old) (hit : s.heap.IsTupleIter it l i) (hl : s.heap.IsTuple l items) (hx : items[i]? = some x) (hne : e ≠ it)
    (hQ : ∀ h', IsEnumOut h' e it ((i : Int) + 1) x s.heap.objs.size → h'.IsTupleIter it l (i + 1) →
      h'.get? s.heap.objs.size = some { cls := .type "tuple", data := .seq #[.int i s.toks, x] } → h'.objs.size = s.heap.objs.size + 1 →
      (∀ b o, b ≠ e → b ≠ it → s.heap.get? b = some o → h'.get? b = some o) → Q (some (.ref s.heap.objs.size)) { s with heap := h', toks := s.toks + 1 }) :
    wpAny (model prog w) A (pyNext (.ref e)) Q E s := by
  have hT : s.TypeIs (.ref e) "enumerate" := ⟨_, he, rfl⟩
  unfold pyNext
  exact wpAny_bind (wpAny_attempt (wpAny_callSpecial?_slot (name := Str.ofString "__next__") hT F.slot_enumerate_next
    (wpAny_call_entry F.slot_enumerate_next hT F.entry_enumerate_next
      (enumT_next_item he hit hl hx hne fun h' a b c d k => wpAny_pure (hQ h' a b c d k)) (F.args_enumerate_next_1 _))))

theorem enumT_end {e it l : Addr} {i : Nat} {items : Array Value} {old : Value} {Q : Option Value → Shared → Prop} (hh : A.handled = none)
    (he : IsEnum s.heap e it i old) (hit : s.heap.IsTupleIter it l i) (hl : s.heap.IsTuple l items) (hx : items[i]? = none)
    (hQ : ∀ h', Heap.ExtBut it s.heap h' → Q none { s with heap := h' }) : wpAny (model prog w) A (pyNext (.ref e)) Q E s := by
  have hT : s.TypeIs (.ref e) "enumerate" := ⟨_, he, rfl⟩
  unfold pyNext
  refine wpAny_bind (wpAny_attempt (wpAny_callSpecial?_slot (name := Str.ofString "__next__") hT F.slot_enumerate_next
    (wpAny_call_entry F.slot_enumerate_next hT F.entry_enumerate_next ?_ (F.args_enumerate_next_1 _))))
  show wpAny _ _ (field (.ref e) 2 >>= _) _ _ _
  refine wpAny_bind (wpAny_field he rfl (x := .ref it) rfl ?_)
  refine wpAny_bind (wpAny_nextOf_tuple_end hh hit hl hx fun h' x he' hx' => ?_)
  obtain ⟨o, ho, hc⟩ := hx'
  refine wpAny_bind (wpAny_isInstance (T := "StopIteration") (b := true) ⟨o, ho, hc⟩ isSubtype_stop ?_)
  exact wpAny_pure (hQ _ he')
end
def IteT (K : PySem.W.Frag) (a : Addr) : It :=
  ⟨fun i H => ∃ (xs : List V) (x : V), SqT K H a xs ∧ xs[i]? = some x, fun i H v H' => ∃ T x, v = .ref T ∧ H T = none ∧ H' = upd H T (.tup [.int (i : Nat), x]) ∧ ∀ xs, SqT K H a xs → xs[i]? = some x, fun i H => ∃ xs : List V, SqT K H a xs ∧ xs.length ≤ i⟩
theorem turn_enumT {P : Program} {w : World} {K : PySem.W.Frag} {elts : List Expr} {kk : Nat} {tpos : Pos} (a e it : Addr) :
    Turn P w K (.Tuple elts kk tpos) (IteT K a) [e, it] e (fun i h => (∃ old, IsEnum h e it ((i : Nat) : Int) old) ∧ h.IsTupleIter it a i ∧ e ≠ it) where
  mem := by simp
  obj := fun i h st b hb => by
    obtain ⟨⟨old, he⟩, ⟨o, ho, hc, hd⟩, _⟩ := st
    have e' : b = e ∨ b = it := by simpa using hb
    rcases e' with z | z
    · rw [z]; exact ⟨_, he, fun v q => nomatch q⟩
    · rw [z]; exact ⟨o, ho, fun v q => by rw [hd] at q; cases q⟩
  keep := fun i h h' st k => let ⟨⟨old, he⟩, hi, hne⟩ := st; ⟨⟨old, k e (by simp) _ he⟩, hi.at fun o q => k it (by simp) o q, hne⟩
  item := by
    intro X hP hw hK hc i pins s σ H E I hf st hg
    subst hP hw hK
    obtain ⟨⟨old, he⟩, hit, hne⟩ := st
    obtain ⟨xs, x, hq, hx⟩ := hg
    obtain ⟨its, rv, p, hz⟩ := I.tuple hq
    obtain ⟨u, hu, ru⟩ := rv.get hx
    have hel : e < s.heap.objs.size := Heap.lt_size he
    have hil : it < s.heap.objs.size := by obtain ⟨_, q, _⟩ := hit; exact Heap.lt_size q
    refine enumT_item he hit (show s.heap.IsTuple a its.toArray from p) (x := u) (by simpa using hu) hne fun h' ho hit' hT hsz hk => ?_
    refine ⟨_, rfl, wpAny_letOwnedTupleGo_enum (s := { s with heap := h', toks := s.toks + 1 }) ho fun h'' he' sb => ?_⟩
    have hT2 : h''.get? s.heap.objs.size = some { cls := .type "tuple", data := .seq #[.int i s.toks, u] } := (sb.2 _ (Nat.ne_of_gt hel)).trans hT
    have new : ObjOk X.prog X.w (upd H s.heap.objs.size (.tup [.int (i : Nat), x])) h'' s.heap.objs.size (.tup [.int (i : Nat), x]) :=
      ⟨by show 2 ≤ sizeLine; decide, [.int i s.toks, u], .cons ⟨_, rfl⟩ (.cons ru .nil), ⟨_, hT2, rfl, _, rfl⟩⟩
    have I1 : Inv X pins σ (upd H s.heap.objs.size (.tup [.int (i : Nat), x])) { s with heap := h'', toks := s.toks + 1 } :=
      I.turnedNew (ch := [e, it]) (fun b ob hb q => (sb.2 b (fun z => hb (by simp [z]))).trans (hk b ob (fun z => hb (by simp [z])) (fun z => hb (by simp [z])) q)) hf (Nat.le_refl _) new
    refine ⟨.ref s.heap.objs.size, _, I1, rfl, ⟨_, x, rfl, I.hok.fresh (Nat.le_refl _), rfl, fun ys hy => by rw [I.tuple_inj hy hq]; exact hx⟩, ⟨⟨u, ?_⟩, hit'.at fun o q => (sb.2 it (Ne.symm hne)).trans q, hne⟩, fun b hb => ?_⟩
    · have e1 : ((i + 1 : Nat) : Int) = (i : Int) + 1 := by omega
      rw [e1]; exact he'
    · have hb' : b < s.heap.objs.size := by
        have e' : b = e ∨ b = it := by simpa using hb
        rcases e' with z | z
        · rw [z]; exact hel
        · rw [z]; exact hil
      rw [upd_ne (Nat.ne_of_lt hb')]
      exact (hf b hb).1
  done := by
    intro X hP hw hK hc i pins s σ H E I hf st hg
    subst hP hw hK
    obtain ⟨⟨old, he⟩, hit, hne⟩ := st
    obtain ⟨xs, hq, hx⟩ := hg
    obtain ⟨its, rv, p, hz⟩ := I.tuple hq
    obtain ⟨f0, f1, f2, f3, f4, f5⟩ := hf it (by simp)
    have hl := rv.length
    exact enumT_end (I.ok.hd hc) he hit (show s.heap.IsTuple a its.toArray from p) (by simp; omega) fun h' eb => ⟨rfl, I.turned (t' := s.toks) (fun b o hb q => eb b o hb q) f0 f1 f3 f4 f5⟩
  self := fun A i s Q E st h => let ⟨⟨_, he⟩, _⟩ := st; wpAny_pyIter_enum he h
def iEnumT (K : PySem.W.Frag) (ta : TA) : TI := fun σ H R => ta σ H fun vs H1 => ∃ a xs, vs = [.ref a] ∧ SqT K H1 a xs ∧ R (IteT K a) H1
theorem pi_enumT {X : Cx} {e : Expr} {ta : TA} {p pos tpos : Pos} {elts : List Expr} {kk : Nat} (hg : Gl X "enumerate") (hm : X.mg "enumerate" = none) (ha : PA X [e] ta) (hs : starEach [e] X.env = [(false, eval e X.env)] := by rfl) :
    PI X (.Tuple elts kk tpos) (.Call (.Name "enumerate" p) [e] [] pos) (iEnumT X.K ta) := by
  refine ⟨fun pins s σ H R I h => ?_⟩
  refine Call_ (ld_blt I hg hm boot_enumerate (PyProof.Rows.callWith_type1 (thn (ha.run pos pins s σ H _ I h) fun us s1 ⟨vs, H1, I1, r1, q1⟩ => ?_) hs rfl))
  obtain ⟨a, xs, ex, hq, q⟩ := q1
  subst ex
  cases r1 with
  | cons r rr =>
    cases rr
    cases r
    obtain ⟨its, rv, p', hz⟩ := I1.tuple hq
    refine call_enumT (show s1.heap.IsTuple a its.toArray from p') fun h' he hit hsz hk => wpAny_pyIter_enum he ?_
    have I2 : Inv X pins σ H1 { s1 with heap := h' } := I1.kept (t' := s1.toks) hk
    refine ⟨s1.heap.objs.size + 1, [s1.heap.objs.size + 1, s1.heap.objs.size], _, _, H1, rfl, I2, turn_enumT a (s1.heap.objs.size + 1) s1.heap.objs.size, ⟨⟨.none, he⟩, hit, Nat.succ_ne_self _⟩, fun b hb => ?_, q⟩
    have e' : b = s1.heap.objs.size + 1 ∨ b = s1.heap.objs.size := by simpa using hb
    have hle : s1.heap.objs.size ≤ b := by
      rcases e' with z | z
      · rw [z]; exact Nat.le_add_right _ _
      · rw [z]; exact Nat.le_refl _
    exact I1.fpOk hle (I1.hok.fresh hle)
end EnT

/-! texts, enumerate over tuples -/
namespace Al
open PySem PyProof.Rows L2
variable [Al.TabList]
def rJoin (K : PySem.W.Frag) : V → List V → Hp → VK → Prop := fun x xs H Q => ∃ a p, ∃ ys : List Str, x = .str a ∧ xs = [.ref p] ∧ (SqL K H p (ys.map V.str) ∨ SqT K H p (ys.map V.str)) ∧
    (ys.map (·.length)).sum + ys.length * a.length ≤ 16777216 ∧ Q (.str (Txt.join a ys)) H
theorem k_join (K : PySem.W.Frag) {X : Cx} (hK : X.K = K := by rfl) : MtR X "str.join" (rJoin K) := hK ▸ mt_join
def iEnumU (K : PySem.W.Frag) (ta : TA) : TI := fun σ H R => iEnum K ta σ H R ∨ EnT.iEnumT K ta σ H R
theorem pi_enumU (K : PySem.W.Frag) {X : Cx} {e : Expr} {ta : TA} {p pos tpos : Pos} {elts : List Expr} {kk : Nat} (hg : Gl X "enumerate") (hm : X.mg "enumerate" = none) (ha : PA X [e] ta) (hs : starEach [e] X.env = [(false, eval e X.env)] := by rfl) (hK : X.K = K := by rfl) :
    PI X (.Tuple elts kk tpos) (.Call (.Name "enumerate" p) [e] [] pos) (iEnumU K ta) := by
  subst hK
  exact pi_or (pi_enum hg hm ha hs) (EnT.pi_enumT hg hm ha hs)
section
variable {B : Base} {K : PySem.W.Frag} {σ : AEnv} {M : List MO} {to te : TE} {t ta : TA} {Φ : AV → List MO → Prop}
theorem ae_join (h : AE B K to σ M fun x M1 => ∃ a, x = .d (.str a) ∧ AA B K t σ M1 fun ys M2 => ∃ (y : AV) (zs : List Str), ys = [y] ∧ STV M2 y (zs.map D.str) ∧ (zs.map (·.length)).sum + zs.length * a.length ≤ 16777216 ∧ Φ (.d (.str (Txt.join a zs))) M2) :
    AE B K (tBM K "str" (rJoin K) to t) σ M Φ := fun W μ H τ o s e Q q =>
  h W μ H τ o s e _ fun x M1 W1 μ1 H1 v ⟨a, e1, p⟩ f1 r1 => by
    subst e1
    cases r1
    refine ⟨rfl, p W1 μ1 H1 τ f1.ok f1.sim (f1.re e) _ fun ys M2 W2 μ2 H2 ws ⟨y, zs, e3, hs, hz, p2⟩ f2 r2 => ?_⟩
    subst e3
    obtain ⟨w, rfl, rw_⟩ := ra_one r2
    obtain ⟨b, vs, rfl, hq, hr⟩ := hs.run f2.sim rw_
    have := hr.strs
    subst this
    exact ⟨a, b, zs, rfl, rfl, hq, hz, q _ _ _ _ _ _ p2 (f1.trans f2) rfl⟩
theorem ai_enumL {Φ : List D → List MO → Prop} (h : AA B K ta σ M fun xs M1 => ∃ l, xs = [.d (.lst l)] ∧ Φ (enumD 0 l) M1) : AI B K (iEnumU K ta) σ M Φ := fun W μ H τ o s e R q => .inl (ai_enum h W μ H τ o s e R q)
theorem ai_enumT {Φ : List D → List MO → Prop} (h : AA B K ta σ M fun xs M1 => ∃ l, xs = [.d (.tup l)] ∧ Φ (enumD 0 l) M1) : AI B K (iEnumU K ta) σ M Φ := fun W μ H τ o s e R q => .inr <|
  h W μ H τ o s e _ fun x M1 W1 μ1 H1 v ⟨l, e1, p⟩ f1 r1 => by
    subst e1
    obtain ⟨v, r, rfl, r2, r3⟩ := r1
    cases r3
    obtain ⟨a, vs, rfl, h1, h2⟩ := r2
    refine ⟨a, vs, rfl, sqt_mono f1.sim.sub h1, q _ _ _ _ _ _ p f1 fun W2 H2 M2 e2 s1 sm _ => ?_⟩
    have s2 := sm.sub
    have hq : SqT K H2 a vs := sqt_mono (s1.trans s2) h1
    refine ⟨fun i d hd => ?_, ⟨vs, hq, by rw [enumD_len, h2.length]; exact Nat.le_refl _⟩⟩
    obtain ⟨y, hy, rfl⟩ := enumD_get hd
    obtain ⟨v, hv, rv⟩ := h2.get hy
    refine ⟨⟨vs, v, hq, hv⟩, fun x H' ⟨T, z, e1, e2, e3, e4⟩ => .inr ⟨T, _, e2, e3, ?_⟩⟩
    have := e4 vs hq
    rw [hv] at this; cases this
    have wT : W2 T = none := by
      cases e : W2 T with
      | none => rfl
      | some u => rw [s2 T u e] at e2; cases e2
    subst e1
    exact ⟨T, _, rfl, .inl (.inl upd_same), _, _, rfl, by rw [Nat.zero_add]; rfl, _, _, rfl, RD.mono (s1.trans (same_upd wT)) rv, rfl⟩
/-! == of tuples of ints -/
theorem eqv_tupI (as bs : List Int) : PyData.eqv (.tuple (toPs (as.map D.int))) (.tuple (toPs (bs.map D.int))) = decide (as = bs) := by
  rw [← eqv_ints as bs]; rfl
theorem shaped_tupI (ns : List Int) : SeqAt.shaped (.tuple (toPs (ns.map D.int))) = true := shaped_ints ns
theorem ur_eqTI {as bs : List Int} (k : Φ (.d (.bl (decide (as = bs)))) M) : AR B K (uEq K) (.d (.tup (as.map D.int))) (.d (.tup (bs.map D.int))) M Φ := fun W μ H u w o s hu hw Q q =>
  .inr (ar_eqD (p := .tuple (toPs (as.map D.int))) (q := .tuple (toPs (bs.map D.int))) (.d (x := .tup (as.map D.int)) (pures_ints as)) (.d (x := .tup (bs.map D.int)) (pures_ints bs)) (shaped_tupI as) (shaped_tupI bs) (by rw [eqv_tupI]; exact k) W μ H u w o s hu hw Q q)
theorem ur_neTI {as bs : List Int} (k : Φ (.d (.bl (!decide (as = bs)))) M) : AR B K (uNe K) (.d (.tup (as.map D.int))) (.d (.tup (bs.map D.int))) M Φ := fun W μ H u w o s hu hw Q q =>
  .inr (ar_neD (p := .tuple (toPs (as.map D.int))) (q := .tuple (toPs (bs.map D.int))) (.d (x := .tup (as.map D.int)) (pures_ints as)) (.d (x := .tup (bs.map D.int)) (pures_ints bs)) (shaped_tupI as) (shaped_tupI bs) (by rw [eqv_tupI]; exact k) W μ H u w o s hu hw Q q)
end
end Al

/-! comprehensions whose list will change -/
namespace Al
open PySem PyProof.Rows L2 Gx
variable [Al.TabList]
section
variable {B : Base} {K : PySem.W.Frag} {σ : AEnv} {M : List MO} {ta tb te tl : TE} {x y : AV} {Φ : AV → List MO → Prop}
theorem ae_lcPM {P : List MO → Prop} {wi : TI} {g : TG} {tt : TT} {vs : List Nat} {Φ : AV → List MO → Prop} {n : Nat} (I : Nat → List D → List MO → Prop) (hI : ∀ i acc M, I i acc M → M.length = n ∧ M.all (MO.below n) = true) (gk : GK g vs) (hP : ∀ i acc M, I i acc M → P (M ++ [.lst acc]))
    (h : AIP P B K wi σ M fun items M1 => I 0 [] M1 ∧ (∀ i d acc M', items[i]? = some d → I i acc M' → AG B K g (.d d) (wipeA σ vs) (M' ++ [.lst acc]) fun σ2 M2 => AT B K tt σ2 M2 fun b M3 =>
        (b = true → AE B K te σ2 M3 fun y M4 => ∃ z M5, y = .d z ∧ M4 = M5 ++ [.lst acc] ∧ acc.length < sizeLine ∧ I (i + 1) (acc ++ [z]) M5) ∧ (b = false → ∃ M5, M3 = M5 ++ [.lst acc] ∧ I (i + 1) acc M5)) ∧
      (∀ acc M', I items.length acc M' → Φ (.m n) (M' ++ [.lst acc]))) : AE B K (tLc wi g tt te vs) σ M Φ := fun W μ H τ o s e Q q =>
  h W μ H τ o s e _ fun items M1 W1 μ1 H1 J ⟨h0, hs, hd⟩ f1 ok Dd hD => by
    have hl : μ1.length = n := by rw [f1.sim.len]; exact (hI _ _ _ h0).1
    have hB : B.μ0.length ≤ n := by
      obtain ⟨ext, e1, _⟩ := f1.ok.pre
      rw [← hl, e1, List.length_append]; omega
    have g0 : Go B K W1 μ1 W1 (μ1 ++ [Dd]) (M1 ++ [.lst []]) (upd H1 Dd (.lst [])) := go_mut f1.ok f1.sim hD ⟨[], upd_same, rfl⟩
    have hDk : (μ1 ++ [Dd])[n]? = some Dd := by rw [← hl, List.getElem?_append_right (Nat.le_refl _), Nat.sub_self]; rfl
    refine ⟨fun i m H' => m = items.length - i ∧ i ≤ items.length ∧ ∃ acc M' W', I i acc M' ∧ Go B K W1 μ1 W' (μ1 ++ [Dd]) (M' ++ [.lst acc]) H', ⟨items.length, rfl, Nat.zero_le _, [], M1, W1, h0, g0⟩, ?_⟩
    rintro i m H' ⟨rfl, hi, acc, M', W', hi1, g1⟩
    have hok := ok W' H' (M' ++ [.lst acc]) [Dd] g1.wext g1.sim (hP _ _ _ hi1)
    have hM' : M'.length = n := (hI _ _ _ hi1).1
    by_cases hlt : i < items.length
    · refine .inr ?_
      obtain ⟨hgo, hy⟩ := hok.1 i items[i] (List.getElem?_eq_getElem hlt)
      refine ⟨hgo, fun H2 => i + 1 ≤ items.length ∧ ∃ acc M' W', I (i + 1) acc M' ∧ Go B K W1 μ1 W' (μ1 ++ [Dd]) (M' ++ [.lst acc]) H2, fun H2 hN => ⟨items.length - (i + 1), by omega, rfl, hN⟩, fun x Hx hyx => ?_⟩
      obtain ⟨Wx, gx, rx⟩ := go_item g1.ok g1.sim (hy x Hx hyx)
      have ex := re_wipe ((g1.trans gx).re (f1.re e)) vs
      have hag := hs i _ acc M' (List.getElem?_eq_getElem hlt) hi1 Wx (μ1 ++ [Dd]) Hx (wipe τ vs) x gx.ok gx.sim ex rx
      -- what is left behind
      have same : ∀ {M2 W2 μ2 H2}, Go B K Wx (μ1 ++ [Dd]) W2 μ2 M2 H2 → M2.length = n + 1 → μ2 = μ1 ++ [Dd] := by
        intro M2 W2 μ2 H2 f hm
        obtain ⟨e', he'⟩ := f.mext
        have hz := f.sim.len
        rw [he', hm] at hz
        have : e'.length = 0 := by simp at hz; omega
        rw [List.eq_nil_of_length_eq_zero this] at he'
        simpa using he'
      have key := gk x (wipe τ vs) Hx _ (hag (fun τ2 H2 => tt τ2 H2 fun b H3 =>
          if b = true then te τ2 H3 fun y H4 => ∃ acc, H4 Dd = some (.lst acc) ∧ acc.length < sizeLine ∧ (i + 1 ≤ items.length ∧ ∃ acc' M' W', I (i + 1) acc' M' ∧ Go B K W1 μ1 W' (μ1 ++ [Dd]) (M' ++ [.lst acc']) (upd H4 Dd (.lst (acc ++ [y])))) else (i + 1 ≤ items.length ∧ ∃ acc M' W', I (i + 1) acc M' ∧ Go B K W1 μ1 W' (μ1 ++ [Dd]) (M' ++ [.lst acc]) H3)) fun σ2 M2 W2 μ2 H2 τ2 p2 f2 e2 => ?_)
      · rw [wipe_wipe] at key
        exact key
      · refine p2 W2 μ2 H2 τ2 f2.ok f2.sim e2 _ fun b M3 W3 μ3 H3 ⟨p3, p4⟩ f3 => ?_
        have gx3 := f2.trans f3
        cases b with
        | false =>
          refine iteF ?_
          obtain ⟨M5, e5, p5⟩ := p4 rfl
          subst e5
          have hμ := same gx3 (by simp [(hI _ _ _ p5).1])
          subst hμ
          exact ⟨hlt, acc, M5, W3, p5, (g1.trans gx).trans gx3⟩
        | true =>
          refine iteT ?_
          refine p3 rfl W3 μ3 H3 τ2 f3.ok f3.sim (f3.re e2) _ fun y M4 W4 μ4 H4 v ⟨z, M5, ez, e5, hz, p5⟩ f4 r4 => ?_
          subst ez; subst e5
          have gx4 := gx3.trans f4
          have hM5 : M5.length = n := (hI _ _ _ p5).1
          have hμ := same gx4 (by simp [hM5])
          subst hμ
          obtain ⟨vs', h1, h2⟩ := f4.sim.ob n Dd (.lst acc) hDk (by rw [← hM5, List.getElem?_append_right (Nat.le_refl _), Nat.sub_self]; rfl)
          have g5 := go_set (mo := .lst (acc ++ [z])) (u := .lst (vs' ++ [v])) f4.ok f4.sim hDk ⟨_, upd_same, RDs.append h2 (RDs.one r4)⟩
          have eM : (M5 ++ [MO.lst acc]).set n (.lst (acc ++ [z])) = M5 ++ [.lst (acc ++ [z])] := by
            rw [List.set_append_right _ _ (by omega), hM5, Nat.sub_self]; rfl
          rw [eM] at g5
          exact ⟨vs', h1, by rw [← h2.length]; exact hz, hlt, acc ++ [z], M5, W4, p5, ((g1.trans gx).trans gx4).trans g5⟩
    · have hil : i = items.length := by omega
      subst hil
      exact .inl ⟨hok.2, q _ _ _ _ _ _ (hd _ _ hi1) (f1.trans g1) ⟨Dd, hDk, rfl⟩⟩
theorem ae_mapM {P : List MO → Prop} {wi : TI} {g : TG} {vs : List Nat} {l : List D} (F : D → D) (hM : M.all (MO.below M.length) = true) (gk : GK g vs) (hz : l.length ≤ sizeLine) (hP : ∀ acc, P (M ++ [.lst acc]))
    (h : AIP P B K wi σ M fun items M1 => M1 = M ∧ items = l ∧ Φ (.m M.length) (M ++ [.lst (l.map F)]))
    (ht : ∀ d ∈ l, ∀ acc, AG B K g (.d d) (wipeA σ vs) (M ++ [.lst acc]) fun σ2 M2 => AE B K te σ2 M2 fun y M4 => y = .d (F d) ∧ M4 = M ++ [.lst acc]) : AE B K (tLc wi g tYes te vs) σ M Φ := by
  refine ae_lcPM (n := M.length) (fun i acc M' => M' = M ∧ acc = (l.take i).map F) (fun i acc M' ⟨e, _⟩ => by subst e; exact ⟨rfl, hM⟩) gk (fun i acc M' ⟨e, _⟩ => by subst e; exact hP acc) (h.imp fun items M1 ⟨e1, e2, p⟩ => ?_)
  subst e1; subst e2
  refine ⟨⟨rfl, rfl⟩, fun i d acc M' hd ⟨e1, e2⟩ => ?_, fun acc M' ⟨e1, e2⟩ => ?_⟩
  · subst e1
    refine fun W μ H τ v o s e r Q q => ht d (List.mem_of_getElem? hd) acc W μ H τ v o s e r Q fun σ2 M2 W2 μ2 H2 τ2 p2 f2 e3 => q σ2 M2 W2 μ2 H2 τ2 ?_ f2 e3
    refine at_yes ⟨fun _ => p2.imp fun y M4 ⟨ey, eM⟩ => ⟨F d, M', ey, eM, ?_, rfl, ?_⟩, (fun z => nomatch z)⟩
    · rw [e2, List.length_map, List.length_take]
      have := (List.getElem?_eq_some_iff.mp hd).1
      omega
    · rw [e2, take_succ_map F hd]
  · subst e1
    rw [List.take_length] at e2
    rw [e2]
    exact p
end
end Al

/-! == of tuples and lists of any data, instances by their own __eq__ -/
namespace Gq
open PySem PySem.SeqAt
open AutoSeq1 (wpAny_loadPart')
open MeetsSeq MeetsSeq2 MeetsSeq3 SeqRoads2
section
variable {prog : Program} {w : World} {A : Around} {R : Result → Shared → Prop}
abbrev isTup (o : Option Addr) (sl : Array (Option Value)) (n : Nat) (xs : Array Value) : Obj := { cls := .type "tuple", dict := o, data := .seq xs n, slots := sl }
/-- == of two tuples: each pair is asked, in turn; the first unlike one ends it -/
theorem tup_any (p q : Addr) (xs ys : Array Value) (nx ny : Nat) (ox oy : Option Addr) (sx sy : Array (Option Value)) (J : Nat → Shared → Prop)
    (each : ∀ k (hx : k < xs.size) (hy : k < ys.size) s, J k s →
      wpAny (model prog w) A.in1 (eqBool xs[k] ys[k]) (fun r t => (r = true ∧ J (k + 1) t) ∨ (r = false ∧ R (.ok (.ret (.bool false))) t)) (fun e t => R (.error e) t) s)
    (last : ∀ s, J (min xs.size ys.size) s → R (.ok (.ret (.bool (xs.size == ys.size)))) s)
    {s : Shared} (hp : s.heap.get? p = some (isTup ox sx nx xs)) (hq : s.heap.get? q = some (isTup oy sy ny ys)) (h0 : J 0 s) :
    wpAny (model prog w) A.in1 (Builtin.«tuple.__eq__» ⟨[.ref p, .ref q], []⟩) (GQ.FinOf prog w A R) (fun e t => R (.error e) t) s := by
  have sub := AutoSeq1.sub_tuple_tuple
  have zl : (xs.toList.zip ys.toList).length = min xs.size ys.size := by simp
  have start := h0
  obtain ⟨s1, s2, s3, s4, s5⟩ := s
  wp_walk using wpAny_loadPart' hp, wpAny_loadPart' hq, wpAny_forIn_list _ (fun rest acc t => acc.1 = none ∧ ∃ k, rest = (xs.toList.zip ys.toList).drop k ∧ k ≤ min xs.size ys.size ∧ J k t) _
  case turn =>
    rintro ⟨u, v⟩ rest acc t ⟨ha, k, hr, hk, hJ⟩
    by_cases hlt : k < (xs.toList.zip ys.toList).length
    · have hm : k < min xs.size ys.size := by rw [← zl]; exact hlt
      have hx : k < xs.size := by omega
      have hy : k < ys.size := by omega
      rw [List.drop_eq_getElem_cons hlt] at hr
      injection hr with huv hrest
      obtain rfl : u = xs[k] := by simpa using congrArg Prod.fst huv
      obtain rfl : v = ys[k] := by simpa using congrArg Prod.snd huv
      refine wpAny_bind (wpAny_mono (each k hx hy t hJ) (fun r t2 z => ?_) fun _ _ z => z)
      rcases z with ⟨rfl, z⟩ | ⟨rfl, z⟩
      · wp_walk
        exact ⟨rfl, k + 1, hrest, hm, z⟩
      · wp_walk
        exact z
    · rw [List.drop_of_length_le (Nat.le_of_not_lt hlt)] at hr
      cases hr
  case fin =>
    rintro ⟨a1, a2⟩ t ⟨ha, k, hr, hk, hJ⟩
    simp only at ha
    subst ha
    have hge : min xs.size ys.size ≤ k := by
      rw [← zl]
      refine Nat.le_of_not_lt fun hlt => ?_
      rw [List.drop_eq_getElem_cons hlt] at hr
      cases hr
    obtain rfl : k = min xs.size ys.size := Nat.le_antisymm hk hge
    have := last t hJ
    wp_walk
    simpa [Builtin.Tuple.tupleCompareSizes] using this
  case h =>
    exact ⟨rfl, 0, rfl, Nat.zero_le _, start⟩
abbrev isLst (n : Nat) (xs : Array Value) : Obj := { cls := .type "list", data := .seq xs n }
/-- two lists of N things stand there -/
def Two (p q : Addr) (N : Nat) (P : Array Value → Array Value → Prop) (s : Shared) : Prop := ∃ (xs ys : Array Value) (nx ny : Nat), s.heap.get? p = some (isLst nx xs) ∧ s.heap.get? q = some (isLst ny ys) ∧ xs.size = N ∧ ys.size = N ∧ P xs ys
/-- what each turn of == of two lists is -/
def Turn (prog : Program) (w : World) (A : Around) (E : Value → Shared → Prop) (p q : Addr) (N : Nat) (J : Nat → Shared → Prop) (F : Shared → Prop) : Prop := ∀ k s, J k s → Two p q N (fun xs ys => ∀ (hx : k < xs.size) (hy : k < ys.size),
  wpAny (model prog w) A.in1 (eqBool xs[k] ys[k]) (fun r t => (r = true ∧ J (k + 1) t) ∨ (r = false ∧ Two p q N (fun _ _ => True) t ∧ F t)) E s) s
/-- two lists of one length: the same -/
theorem lst_any (p q : Addr) (N : Nat) (J : Nat → Shared → Prop) (each : Turn prog w A (fun e t => R (.error e) t) p q N J (fun t => R (.ok (.ret (.bool false))) t))
    (last : ∀ s, J N s → R (.ok (.ret (.bool true))) s) (m : Nat) : ∀ k : Nat, N - k = m → k ≤ N → ∀ s, J k s →
    wpAny (model prog w) A.in1 (Builtin.«list.__eq__.loop» ⟨[.ref p, .ref q, rawInt k, rawInt 2], []⟩) (GQ.FinOf prog w A R) (fun e t => R (.error e) t) s := by
  induction m with
  | zero =>
    intro k hm hk s hJ
    obtain ⟨xs, ys, nx, ny, hp, hq, sx, sy, _⟩ := each k s hJ
    obtain rfl : k = N := by omega
    have done := last s hJ
    obtain ⟨s1, s2, s3, s4, s5⟩ := s
    wp_walk using wpAny_loadPart' hp, wpAny_loadPart' hq
    rw [show xs[((k : Nat) : Int).toNat]? = none from by simp; omega, show ys[((k : Nat) : Int).toNat]? = none from by simp; omega]
    wp_walk using wpAny_loadPart' hp, wpAny_loadPart' hq
    show R (.ok (.ret (.bool (xs.size == ys.size)))) _
    rw [sx, sy]
    simpa using done
  | succ m ih =>
    intro k hm hk s hJ
    obtain ⟨xs, ys, nx, ny, hp, hq, sx, sy, one⟩ := each k s hJ
    have hx : k < xs.size := by omega
    have hy : k < ys.size := by omega
    have one := one hx hy
    have gx : xs[((k : Nat) : Int).toNat]? = some xs[k] := by simp [hx]
    have gy : ys[((k : Nat) : Int).toNat]? = some ys[k] := by simp [hy]
    obtain ⟨s1, s2, s3, s4, s5⟩ := s
    wp_walk using wpAny_loadPart' hp, wpAny_loadPart' hq
    rw [gx, gy]
    refine wpAny_bind (wpAny_mono one (fun r t z => ?_) fun _ _ z => z)
    rcases z with ⟨rfl, z⟩ | ⟨rfl, ⟨us, vs, n1, n2, hp2, hq2, su, sv, _⟩, z⟩
    · have next := ih (k + 1) (by omega) (by omega) t z
      obtain ⟨t1, t2, t3, t4, t5⟩ := t
      wp_walk
      rw [show ((k : Int) + 1) = ((k + 1 : Nat) : Int) from by omega]
      refine ⟨plainId_quiet plain_eq_loop _, codeAny_builtin entry_eq_loop ?_⟩
      rw [Around.under_plainId plain_eq_loop _]
      exact next
    · have g1 : us[((k : Nat) : Int).toNat]? = some (us[k]'(by omega)) := by simp [show k < us.size by omega]
      have g2 : vs[((k : Nat) : Int).toNat]? = some (vs[k]'(by omega)) := by simp [show k < vs.size by omega]
      obtain ⟨t1, t2, t3, t4, t5⟩ := t
      wp_walk using wpAny_loadPart' hp2, wpAny_loadPart' hq2
      rw [g1, g2]
      wp_walk
      exact z
theorem lst_start (p q : Addr) (N : Nat) (J : Nat → Shared → Prop) (each : Turn prog w A (fun e t => R (.error e) t) p q N J (fun t => R (.ok (.ret (.bool false))) t))
    (last : ∀ s, J N s → R (.ok (.ret (.bool true))) s) {s : Shared} (h0 : J 0 s) :
    wpAny (model prog w) A.in1 (Builtin.«list.__eq__» ⟨[.ref p, .ref q], []⟩) (GQ.FinOf prog w A R) (fun e t => R (.error e) t) s := by
  obtain ⟨xs, ys, nx, ny, hp, hq, sx, sy, _⟩ := each 0 s h0
  have go := lst_any (A := A) (R := R) p q N J each last _ 0 rfl (Nat.zero_le _) s h0
  have sub := AutoSeq1.sub_list_list
  have same : ¬ (xs.size != ys.size) = true := by simp [sx, sy]
  obtain ⟨s1, s2, s3, s4, s5⟩ := s
  wp_walk using wpAny_loadPart' hp, wpAny_loadPart' hq
  refine ⟨plainId_quiet plain_eq_loop _, codeAny_builtin entry_eq_loop ?_⟩
  rw [Around.under_plainId plain_eq_loop _]
  exact go
end
section
variable {prog : Program} {w : World} {A : Around} {E : Value → Shared → Prop} {s : Shared} {p q : Addr} {Q : Value → Shared → Prop}
theorem rc_tup {xs ys : Array Value} (hu : A.units < cLine) (J : Nat → Shared → Prop) (hp : s.heap.IsTuple p xs) (hq : s.heap.IsTuple q ys)
    (each : ∀ k (hx : k < xs.size) (hy : k < ys.size) s, J k s → wpAny (model prog w) A.in1 (eqBool xs[k] ys[k]) (fun r t => (r = true ∧ J (k + 1) t) ∨ (r = false ∧ Q (.bool false) t)) E s)
    (last : ∀ s, J (min xs.size ys.size) s → Q (.bool (xs.size == ys.size)) s) (h0 : J 0 s) : wpAny (model prog w) A (richCompare .Eq (.ref p) (.ref q)) Q E s := by
  obtain ⟨⟨c1, o1, t1, l1⟩, g1, rfl, n1, rfl⟩ := id hp
  obtain ⟨⟨c2, o2, t2, l2⟩, g2, rfl, n2, rfl⟩ := id hq
  refine wpAny_richCompare_same_room (op := .Eq) ⟨_, g1, rfl⟩ ⟨_, g2, rfl⟩ F.slot_tuple_eq (GQ.call_here F.slot_tuple_eq ⟨_, g1, rfl⟩ F.entry_tuple_eq (F.args_tuple_eq_2 _ _) ?_) hu
  refine tup_any (R := wants (fun v t => v ≠ .notImplemented ∧ Q v t) E) p q xs ys n1 n2 o1 o2 l1 l2 J (fun k hx hy s' hJ => ?_) (fun s' hJ => ⟨(fun z => nomatch z), last s' hJ⟩) g1 g2 h0
  refine wpAny_mono (each k hx hy s' hJ) (fun r t z => z.imp id fun z => ⟨z.1, (fun z => nomatch z), z.2⟩) fun _ _ z => z
theorem rc_lst {N : Nat} (hu : A.units < cLine) (J : Nat → Shared → Prop) (each : Turn prog w A E p q N J (fun t => Q (.bool false) t))
    (last : ∀ s, J N s → Q (.bool true) s) (h0 : J 0 s) : wpAny (model prog w) A (richCompare .Eq (.ref p) (.ref q)) Q E s := by
  obtain ⟨xs, ys, nx, ny, g1, g2, _⟩ := each 0 s h0
  refine wpAny_richCompare_same_room (op := .Eq) ⟨_, g1, rfl⟩ ⟨_, g2, rfl⟩ F.slot_list_eq (GQ.call_here F.slot_list_eq ⟨_, g1, rfl⟩ F.entry_list_eq (F.args_list_eq_2 _ _) ?_) hu
  refine lst_start (R := wants (fun v t => v ≠ .notImplemented ∧ Q v t) E) p q N J (fun k t hJ => ?_) (fun s' hJ => ⟨(fun z => nomatch z), last s' hJ⟩) h0
  obtain ⟨us, vs, n1, n2, h1, h2, su, sv, one⟩ := each k t hJ
  refine ⟨us, vs, n1, n2, h1, h2, su, sv, fun hx hy => wpAny_mono (one hx hy) (fun r t z => z.imp id fun z => ⟨z.1, z.2.1, (fun z => nomatch z), z.2.2⟩) fun _ _ z => z⟩
end
end Gq
namespace Al
open PySem PyProof.Rows L2 Ow
variable [Al.TabList]
section
variable {X : Cx} {n m : Nat} {d1 d2 : D} {b : Bool} {l1 l2 : List D}
/-- == of two data within a builtin, below the running body: b, and things may only be made -/
def EqA (X : Cx) (n : Nat) (d1 d2 : D) (b : Bool) : Prop := ∀ (A : Around) (pins : List (Addr × Obj)) (s : Shared) (σ : L2.St) (H : Hp) (B : Base) (W : Hp) (μ : List Addr) (M : List MO) (v1 v2 : V) (u1 u2 : Value),
  Sub X n A → Inv X pins σ H s → Ok B W μ H → Sim X.K W μ M H → RD X.K W d1 v1 → RD X.K W d2 v2 → RelV v1 u1 → RelV v2 u2 →
    wpAny (model X.prog X.w) A (eqBool u1 u2) (fun r t => r = b ∧ ∃ W' H', Inv X pins σ H' t ∧ Go B X.K W μ W' μ M H') X.xe s
/-- the same of richCompare -/
def RcA (X : Cx) (n : Nat) (d1 d2 : D) (b : Bool) : Prop := ∀ (A : Around) (pins : List (Addr × Obj)) (s : Shared) (σ : L2.St) (H : Hp) (B : Base) (W : Hp) (μ : List Addr) (M : List MO) (v1 v2 : V) (u1 u2 : Value),
  Sub X n A → Inv X pins σ H s → Ok B W μ H → Sim X.K W μ M H → RD X.K W d1 v1 → RD X.K W d2 v2 → RelV v1 u1 → RelV v2 u2 →
    wpAny (model X.prog X.w) A (richCompare .Eq u1 u2) (fun r t => r = .bool b ∧ ∃ W' H', Inv X pins σ H' t ∧ Go B X.K W μ W' μ M H') X.xe s
theorem EqA.mono (h : EqA X n d1 d2 b) (hn : n ≤ m) : EqA X m d1 d2 b := fun A pins s σ H B W μ M v1 v2 u1 u2 sb => h A pins s σ H B W μ M v1 v2 u1 u2 (sb.mono hn)
theorem RcA.mono (h : RcA X n d1 d2 b) (hn : n ≤ m) : RcA X m d1 d2 b := fun A pins s σ H B W μ M v1 v2 u1 u2 sb => h A pins s σ H B W μ M v1 v2 u1 u2 (sb.mono hn)
/-- what the same object may be is equal -/
def SameB (K : PySem.W.Frag) (d1 d2 : D) (b : Bool) : Prop := ∀ W v, RD K W d1 v → RD K W d2 v → b = true
def D.isRef : D → Bool | .tup _ => true | .lst _ => true | .scr _ => true | .ins _ _ _ => true | .clo _ _ => true | _ => false
theorem RD.ref {K : PySem.W.Frag} {W : Hp} {d : D} {v : V} (h : RD K W d v) (hd : d.isRef = true) : ∃ a, v = .ref a := by
  cases d with
  | tup l => obtain ⟨a, _, e, _⟩ := h; exact ⟨a, e⟩
  | lst l => obtain ⟨a, _, e, _⟩ := h; exact ⟨a, e⟩
  | scr l => obtain ⟨a, _, e, _⟩ := h; exact ⟨a, e⟩
  | ins C ns l => obtain ⟨a, _, _, e, _⟩ := h; exact ⟨a, e⟩
  | clo a x => exact ⟨a, h.1⟩
  | _ => cases hd
theorem RcA.eqA (h : RcA X n d1 d2 b) (hs : SameB X.K d1 d2 b) (r1 : d1.isRef = true) (r2 : d2.isRef = true) : EqA X n d1 d2 b := fun A pins s σ H B W μ M v1 v2 u1 u2 sb I o S e1 e2 k1 k2 => by
  obtain ⟨p, rfl⟩ := e1.ref r1
  obtain ⟨q, rfl⟩ := e2.ref r2
  cases k1
  cases k2
  by_cases hpq : p = q
  · subst hpq
    obtain rfl := hs W _ e1 e2
    exact SeqAt.EqAt.same (A := A) (s := s) (.ref p) X.prog X.w X.xe _ ⟨rfl, W, H, I, .refl o S⟩
  · refine GQ.eqBool_refG hpq (wpAny_mono (h A pins s σ H B W μ M _ _ _ _ sb I o S e1 e2 rfl rfl) (fun r t z => ?_) fun _ _ z => z)
    obtain ⟨rfl, z⟩ := z
    exact ⟨b, rfl, rfl, z⟩
/-- pair by pair, up to the first unlike one -/
inductive PairsA (X : Cx) (n : Nat) : List D → List D → Bool → Prop
  | nil : PairsA X n [] [] true
  | left {x : D} {l : List D} : PairsA X n [] (x :: l) false
  | right {x : D} {l : List D} : PairsA X n (x :: l) [] false
  | yes {x y : D} {l1 l2 : List D} {b : Bool} (h : EqA X n x y true) (r : PairsA X n l1 l2 b) : PairsA X n (x :: l1) (y :: l2) b
  | no {x y : D} {l1 l2 : List D} (h : EqA X n x y false) : PairsA X n (x :: l1) (y :: l2) false
theorem PairsA.len (h : PairsA X n l1 l2 b) (hb : b = true) : l1.length = l2.length := by
  induction h with
  | nil => rfl
  | left => cases hb
  | right => cases hb
  | yes h r ih => rw [List.length_cons, List.length_cons, ih hb]
  | no h => cases hb
theorem vals_at {W : Hp} {K : PySem.W.Frag} : ∀ {l : List D} {vs : List V} {us : List Value} {k : Nat}, RDs K W l vs → Vals vs us → (hk : k < us.length) → ∃ d v, l.drop k = d :: l.drop (k + 1) ∧ RD K W d v ∧ RelV v us[k] := fun {l vs us k} r rv hk => by
  have h1 : k < vs.length := by rw [rv.length]; exact hk
  have h2 : k < l.length := by rw [r.length]; exact h1
  obtain ⟨v, e, rd⟩ := r.get (List.getElem?_eq_getElem h2)
  obtain ⟨u, e2, rv2⟩ := rv.get e
  rw [List.getElem?_eq_getElem hk] at e2
  cases e2
  exact ⟨l[k], v, List.drop_eq_getElem_cons h2, rd, rv2⟩
theorem rcA_tup (h : PairsA X n l1 l2 b) : RcA X (n + 1) (.tup l1) (.tup l2) b := fun A pins s σ H B W μ M v1 v2 u1 u2 sb I o S e1 e2 k1 k2 => by
  obtain ⟨p, vs, rfl, hp, rp⟩ := e1
  obtain ⟨q, ws, rfl, hq, rq⟩ := e2
  cases k1
  cases k2
  obtain ⟨xs, rx, tp, _⟩ := I.tuple (sqt_mono S.sub hp)
  obtain ⟨ys, ry, tq, _⟩ := I.tuple (sqt_mono S.sub hq)
  have lx : xs.length = l1.length := by rw [← rx.length, rp.length]
  have ly : ys.length = l2.length := by rw [← ry.length, rq.length]
  refine Gq.rc_tup (xs := xs.toArray) (ys := ys.toArray) sb.room.units0 (fun k t => ∃ W' H', Inv X pins σ H' t ∧ Go B X.K W μ W' μ M H' ∧ PairsA X n (l1.drop k) (l2.drop k) b) tp tq ?_ ?_ ⟨W, H, I, .refl o S, h⟩
  · rintro k hx hy t ⟨W1, H1, I1, g, P⟩
    have hx : k < xs.length := by simpa using hx
    have hy : k < ys.length := by simpa using hy
    obtain ⟨x, v, ex, rdx, rvx⟩ := vals_at (rp.mono g.wext) rx hx
    obtain ⟨y, v', ey, rdy, rvy⟩ := vals_at (rq.mono g.wext) ry hy
    rw [ex, ey] at P
    show wpAny _ _ (eqBool (xs.toArray[k]'(by simpa using hx)) (ys.toArray[k]'(by simpa using hy))) _ _ _
    rw [List.getElem_toArray, List.getElem_toArray]
    generalize hl1 : l1.drop (k + 1) = r1 at P ex
    generalize hl2 : l2.drop (k + 1) = r2 at P ey
    cases P with
    | yes hxy r =>
      refine wpAny_mono (hxy A.in1 pins t σ H1 B W1 μ M _ _ _ _ sb.in1 I1 g.ok g.sim rdx rdy rvx rvy) (fun z t2 hz => ?_) fun _ _ z => z
      obtain ⟨rfl, W2, H2, I2, g2⟩ := hz
      exact .inl ⟨rfl, W2, H2, I2, g.trans g2, r⟩
    | no hxy =>
      refine wpAny_mono (hxy A.in1 pins t σ H1 B W1 μ M _ _ _ _ sb.in1 I1 g.ok g.sim rdx rdy rvx rvy) (fun z t2 hz => ?_) fun _ _ z => z
      obtain ⟨rfl, W2, H2, I2, g2⟩ := hz
      exact .inr ⟨rfl, rfl, W2, H2, I2, g.trans g2⟩
  · rintro t ⟨W1, H1, I1, g, P⟩
    refine ⟨?_, W1, H1, I1, g⟩
    have sx : xs.toArray.size = l1.length := by simpa using lx
    have sy : ys.toArray.size = l2.length := by simpa using ly
    rw [sx, sy] at P ⊢
    congr 1
    rcases Nat.lt_trichotomy l1.length l2.length with z | z | z
    · rw [Nat.min_eq_left (Nat.le_of_lt z), List.drop_length, List.drop_eq_getElem_cons z] at P
      cases P
      exact beq_eq_false_iff_ne.mpr (Nat.ne_of_lt z)
    · rw [z, Nat.min_self, List.drop_length, show l1.drop l2.length = [] from by rw [← z, List.drop_length]] at P
      cases P
      rw [z]
      exact beq_self_eq_true _
    · rw [Nat.min_eq_right (Nat.le_of_lt z), List.drop_length, List.drop_eq_getElem_cons z] at P
      cases P
      exact beq_eq_false_iff_ne.mpr (Nat.ne_of_gt z)
/-- an instance with its own __eq__ on the left -/
theorem rcA_own {CX : CXT} {C g : Addr} {fd : FuncData} {ps : List Str} {asp : ASp} {E : XK} {ns : List Str} {l : List D} (mono : Mono asp) (hs : OwnM X.K C "__eq__" g) (F : FnOk X.prog X.w X.K X.mg X.base CX n g fd ps (conc X.K asp)) (hb : Binds X.K fd ps []) (hx : Passes CX X E)
    (hk : TyK X.K d2) (hn : PySem.W.notFirst X.K C (tyD d2) = true) (h : asp [.d (.ins C ns l), .d d2] [] (fun z M' => z = .d (.bl b) ∧ M' = []) (fun _ _ => False)) : RcA X n (.ins C ns l) d2 b := fun A pins s σ H B W μ M v1 v2 u1 u2 sb I o S e1 e2 k1 k2 => by
  have e1' := e1
  obtain ⟨a, dx, vs, rfl, h1, _⟩ := e1'
  cases k1
  obtain ⟨od, J⟩ := inst_at I (S.sub _ _ h1)
  obtain ⟨P, kx, hP, _⟩ := kit_of I k2 (tyx_of S.sub hk e2)
  obtain ⟨_, hF⟩ := I.fr
  refine PySem.W.cmp_K (op := .Eq) (tb := tyD d2) sb.room.units0 hF I.ok.mod.kin J (kx.ty _ _ I.kIn hP) hn hs.hs hs.hf ?_
  have e0 : Env0 X.prog X.w X.K X.mg X.base A X.stack s H := by
    have e := I.env0
    exact ⟨by rw [sb.fr]; exact e.frames, e.mod, e.bs, e.bsz, e.funs, e.frf, e.hok, e.bare⟩
  have sent : Sent asp ([.ins C ns l, d2].map AV.d) M (fun z M' => z = .d (.bl b) ∧ M' = M) (fun _ _ => False) := sent0 mono (mono _ _ _ _ _ _ (fun z M' q => ⟨q.2, .bl b, q.1, rfl, rfl⟩) (fun _ _ z => z.elim) h)
  have run : conc X.K asp [.ref a, v2] H (fun v H' => v = .bl b ∧ ∃ W', Go B X.K W μ W' μ M H') E := sent_run mono o S (ras_cons (x := .d (.ins C ns l)) (show RA X.K W μ (.d (.ins C ns l)) _ from e1) (ras_cons (x := .d d2) (show RA X.K W μ (.d d2) _ from e2) ras_nil)) sent (fun z M' W' μ' H' v p f r => by
    obtain ⟨rfl, rfl⟩ := p
    cases r
    obtain ⟨e, rfl⟩ := f.mext
    have hl := f.sim.len
    rw [List.length_append, ← S.len] at hl
    obtain rfl : e = [] := List.length_eq_zero_iff.mp (by omega)
    rw [List.append_nil] at f
    exact ⟨rfl, W', f⟩) efits_none
  refine wpAny_mono (run_below (us := [.ref a, u2]) (vs := [.ref a, v2]) F hb sb.room e0 hx I (.cons rfl (.cons k2 .nil)) run) (fun r t z => ?_) fun _ _ z => z
  obtain ⟨z, H', I', rz, rfl, W', g2⟩ := z
  exact cmpback rz (by cases rz; exact ⟨rfl, W', H', I', g2⟩)
end
section
variable {B : Base} {K : PySem.W.Frag} {M : List MO} {Φ : AV → List MO → Prop} {X : Cx} {n : Nat} {d1 d2 : D} {b : Bool}
/-- x == y as an expression -/
def rEqA (X : Cx) (n : Nat) : R2 := fun x y H Q => ∃ B W μ M d1 d2 b, RcA X n d1 d2 b ∧ Ok B W μ H ∧ Sim X.K W μ M H ∧ RD X.K W d1 x ∧ RD X.K W d2 y ∧ ∀ W' H', Go B X.K W μ W' μ M H' → Q (.bl b) H'
theorem op_eqA (hr : L2.Room n X.A) : OpR X (compareOp .Eq) (rEqA X n) := by
  intro pins s σ H x y u1 u2 Q I rx ry h
  obtain ⟨B, W, μ, M, d1, d2, b, hc, o, S, e1, e2, q⟩ := h
  show wpAny (model X.prog X.w) X.A (richCompare .Eq u1 u2) _ X.xe s
  refine wpAny_mono (hc X.A pins s σ H B W μ M x y u1 u2 ⟨hr, rfl⟩ I o S e1 e2 rx ry) (fun r t z => ?_) fun _ _ z => z
  obtain ⟨rfl, W', H', I', g⟩ := z
  exact ⟨.bl b, H', I', rfl, q W' H' g⟩
theorem ar_eqA (hK : X.K = K) (h : RcA X n d1 d2 b) (k : Φ (.d (.bl b)) M) : AR B K (rEqA X n) (.d d1) (.d d2) M Φ := fun W μ H u w o s hu hw Q q => by
  subst hK
  exact ⟨B, W, μ, M, d1, d2, b, h, o, s, hu, hw, fun W' H' g => q _ _ _ _ _ _ k g rfl⟩
end
end Al

/-! == of functions: by identity alone -/
namespace Fq
open PySem PySem.Spec PyProof.Rows PySem.SeqAt Ow
open AutoSeq1 (wpAny_loadPart')
open MeetsSeq MeetsSeq2 MeetsSeq3 SeqRoads2
theorem slot_fn : Slot "function" "__eq__" "object.__eq__" :=
  .of (owner := "object") (n := "__eq__") (by rw [typeLookup_type, builtinLookup_eq_fast]; kernel_rfl) (by decide +kernel) (by decide +kernel) (by decide +kernel)
    (by first | exact .inl (by decide +kernel) | exact .inr (by decide +kernel)) (by rw [isSubtype_type]; kernel_rfl)
abbrev fnObj (od : Option Addr) (fd : FuncData) (sl : Array (Option Value)) : Obj := { cls := .type "function", dict := od, data := .func fd, slots := sl }
theorem s1 : isSubtype (.type "function") (.type "tuple") = pure false := by rw [isSubtype_type]; kernel_rfl
theorem s2 : isSubtype (.type "function") (.type "list") = pure false := by rw [isSubtype_type]; kernel_rfl
theorem s3 : isSubtype (.type "function") (.type "int") = pure false := by rw [isSubtype_type]; kernel_rfl
theorem s4 : isSubtype (.type "function") (.type "str") = pure false := by rw [isSubtype_type]; kernel_rfl
theorem s5 : isSubtype (.type "function") (.type "bool") = pure false := by rw [isSubtype_type]; kernel_rfl
theorem s6 : isSubtype (.type "function") (.type "NoneType") = pure false := by rw [isSubtype_type]; kernel_rfl
theorem t1 : isSubtype (.type "tuple") (.type "function") = pure false := by rw [isSubtype_type]; kernel_rfl
theorem t2 : isSubtype (.type "list") (.type "function") = pure false := by rw [isSubtype_type]; kernel_rfl
theorem t3 : isSubtype (.type "int") (.type "function") = pure false := by rw [isSubtype_type]; kernel_rfl
theorem t4 : isSubtype (.type "str") (.type "function") = pure false := by rw [isSubtype_type]; kernel_rfl
theorem t5 : isSubtype (.type "bool") (.type "function") = pure false := by rw [isSubtype_type]; kernel_rfl
theorem t6 : isSubtype (.type "NoneType") (.type "function") = pure false := by rw [isSubtype_type]; kernel_rfl
section
variable {prog : Program} {w : World} {A : Around} {E : Value → Shared → Prop} {s : Shared} {f : Addr} {od : Option Addr} {fd : FuncData} {sl : Array (Option Value)} {y : Value} {Q : Value → Shared → Prop}
theorem looks {M : Model} {h : Heap} {T : String} (hf : h.get? f = some (fnObj od fd sl)) (sub : isSubtype (.type "function") (.type T) = pure false) : PySem.W.Looks M h (isInstance (.ref f) (.type T)) false := fun A Q E s k q => by
  refine wpAny_bind (wpAny_typeOf_ref (k _ _ hf) ?_)
  exact wpAny_of_eq sub q
/-- object.__eq__ declines -/
theorem fn_no (hf : s.heap.get? f = some (fnObj od fd sl)) (same : ∀ (B : Around) (Q' : Bool → Shared → Prop) (E' : Value → Shared → Prop), Q' false s → wpAny (model prog w) B (isSame (.ref f) y) Q' E' s) (q : Q .notImplemented s) :
    wpAny (model prog w) A (call (.builtin "object.__eq__") [.ref f, y]) Q E s := by
  refine GQ.call_here slot_fn ⟨_, hf, rfl⟩ F.cmpEntry_eq (F.cmpArgs_eq _ _) ?_
  unfold Builtin.«object.__eq__»
  repeat (first | with_reducible refine same _ _ _ ?_ | wp_step)
  exact q
/-- a function on the right -/
theorem to_fn {T id : String} (hy : s.TypeIs y T) (hf : s.heap.get? f = some (fnObj od fd sl)) (ne : (Value.type T != Value.type "function") = true) (sub : isSubtype (.type "function") (.type T) = pure false) (h1 : Slot T "__eq__" id)
    (dec : ∀ Q' : Value → Shared → Prop, Q' .notImplemented s → wpAny (model prog w) A (call (.builtin id) [y, .ref f]) Q' E s)
    (same : ∀ (B : Around) (Q' : Bool → Shared → Prop) (E' : Value → Shared → Prop), Q' false s → wpAny (model prog w) B (isSame (.ref f) y) Q' E' s)
    (same2 : ∀ (B : Around) (Q' : Bool → Shared → Prop) (E' : Value → Shared → Prop), Q' false s → wpAny (model prog w) B (isSame y (.ref f)) Q' E' s)
    (hu : A.units < cLine) (h : Q (.bool false) s) : wpAny (model prog w) A (richCompare .Eq y (.ref f)) Q E s :=
  rc_eq_decline_or (k := false) hy ⟨_, hf, rfl⟩ ne sub h1 slot_fn dec (fun Q' q => fn_no hf same q) (fun Q' q => same2 _ _ _ q) (.inr hu) h
/-- a function on the left -/
theorem of_fn {T id : String} (hy : s.TypeIs y T) (hf : s.heap.get? f = some (fnObj od fd sl)) (ne : (Value.type "function" != Value.type T) = true) (sub : isSubtype (.type T) (.type "function") = pure false) (h1 : Slot T "__eq__" id)
    (dec : ∀ Q' : Value → Shared → Prop, Q' .notImplemented s → wpAny (model prog w) A (call (.builtin id) [y, .ref f]) Q' E s)
    (same : ∀ (B : Around) (Q' : Bool → Shared → Prop) (E' : Value → Shared → Prop), Q' false s → wpAny (model prog w) B (isSame (.ref f) y) Q' E' s)
    (hu : A.units < cLine) (h : Q (.bool false) s) : wpAny (model prog w) A (richCompare .Eq (.ref f) y) Q E s :=
  rc_eq_decline_or (k := false) ⟨_, hf, rfl⟩ hy ne sub slot_fn h1 (fun Q' q => fn_no hf same q) dec (fun Q' q => same _ _ _ q) (.inr hu) h
theorem int_no (i : Int) (u : Tok) : Meets (Builtin.«int.__eq__» ⟨[.int i u, .ref f], []⟩) (fun _ R s => s.heap.get? f = some (fnObj od fd sl) ∧ R (.ok (.ret .notImplemented)) s) :=
  .of_wp fun prog w A R s h => by obtain ⟨hp, g, d, tk, os⟩ := s; obtain ⟨hl, h⟩ := h; have f1 := s3; wp_walk using wpAny_loadPart' hl, wpAny_load hl; exact ⟨_, rfl, h⟩
theorem bool_no (i : Bool) : Meets (Builtin.«int.__eq__» ⟨[.bool i, .ref f], []⟩) (fun _ R s => s.heap.get? f = some (fnObj od fd sl) ∧ R (.ok (.ret .notImplemented)) s) :=
  .of_wp fun prog w A R s h => by obtain ⟨hp, g, d, tk, os⟩ := s; obtain ⟨hl, h⟩ := h; have f1 := s3; wp_walk using wpAny_loadPart' hl, wpAny_load hl; exact ⟨_, rfl, h⟩
theorem str_no (i : Str) (u : Tok) : Meets (Builtin.«str.__eq__» ⟨[.str i u, .ref f], []⟩) (fun _ R s => s.heap.get? f = some (fnObj od fd sl) ∧ R (.ok (.ret .notImplemented)) s) :=
  .of_wp fun prog w A R s h => by obtain ⟨hp, g, d, tk, os⟩ := s; obtain ⟨hl, h⟩ := h; have f1 := s4; wp_walk using wpAny_loadPart' hl, wpAny_load hl; exact ⟨_, rfl, h⟩
theorem fn_none (hf : s.heap.get? f = some (fnObj od fd sl)) (hu : A.units < cLine) (h : Q (.bool false) s) : wpAny (model prog w) A (richCompare .Eq .none (.ref f)) Q E s :=
  to_fn (T := "NoneType") rfl hf (by decide) s6 F.slot_NoneType_eq (fun _ q => call_gives F.slot_NoneType_eq rfl F.entry_NoneType_eq (F.args_NoneType_eq_2 _ _) (NoneType___eq___none_ref_0 f) q)
    (fun _ _ _ q => wpAny_of_eq (rfl : isSame (.ref f) .none = pure false) q) (fun _ _ _ q => wpAny_of_eq (rfl : isSame .none (.ref f) = pure false) q) hu h
theorem fn_int {i : Int} {u : Tok} (hf : s.heap.get? f = some (fnObj od fd sl)) (hu : A.units < cLine) (h : Q (.bool false) s) : wpAny (model prog w) A (richCompare .Eq (.int i u) (.ref f)) Q E s :=
  to_fn (T := "int") rfl hf (by decide) s3 F.slot_int_eq (fun _ q => call_meets F.slot_int_eq rfl F.entry_int_eq (F.args_int_eq_2 _ _) (int_no i u) ⟨hf, q⟩)
    (fun _ _ _ q => wpAny_of_eq (rfl : isSame (.ref f) (.int i u) = pure false) q) (fun _ _ _ q => wpAny_of_eq (rfl : isSame (.int i u) (.ref f) = pure false) q) hu h
theorem fn_bool {i : Bool} (hf : s.heap.get? f = some (fnObj od fd sl)) (hu : A.units < cLine) (h : Q (.bool false) s) : wpAny (model prog w) A (richCompare .Eq (.bool i) (.ref f)) Q E s :=
  to_fn (T := "bool") rfl hf (by decide) s5 F.slot_bool_eq (fun _ q => call_meets F.slot_bool_eq rfl F.entry_int_eq (F.args_int_eq_2 _ _) (bool_no i) ⟨hf, q⟩)
    (fun _ _ _ q => wpAny_of_eq (rfl : isSame (.ref f) (.bool i) = pure false) q) (fun _ _ _ q => wpAny_of_eq (rfl : isSame (.bool i) (.ref f) = pure false) q) hu h
theorem fn_str {i : Str} {u : Tok} (hf : s.heap.get? f = some (fnObj od fd sl)) (hu : A.units < cLine) (h : Q (.bool false) s) : wpAny (model prog w) A (richCompare .Eq (.str i u) (.ref f)) Q E s :=
  to_fn (T := "str") rfl hf (by decide) s4 F.slot_str_eq (fun _ q => call_meets F.slot_str_eq rfl F.entry_str_eq (F.args_str_eq_2 _ _) (str_no i u) ⟨hf, q⟩)
    (fun _ _ _ q => wpAny_of_eq (rfl : isSame (.ref f) (.str i u) = pure false) q) (fun _ _ _ q => wpAny_of_eq (rfl : isSame (.str i u) (.ref f) = pure false) q) hu h
theorem ne_seq {p : Addr} {xs : Array Value} {n : Nat} {dd : Option Addr} {sl2 : Array (Option Value)} {c : String} (hf : s.heap.get? f = some (fnObj od fd sl)) (hp : s.heap.get? p = some { cls := .type c, dict := dd, data := .seq xs n, slots := sl2 }) : f ≠ p := fun e => by
  subst e
  rw [hf] at hp
  cases hp
theorem fn_lst {p : Addr} {xs : Array Value} {n : Nat} {dd : Option Addr} {sl2 : Array (Option Value)} (hf : s.heap.get? f = some (fnObj od fd sl)) (hp : s.heap.get? p = some { cls := .type "list", dict := dd, data := .seq xs n, slots := sl2 }) (hu : A.units < cLine) (h : Q (.bool false) s) : wpAny (model prog w) A (richCompare .Eq (.ref p) (.ref f)) Q E s :=
  to_fn (T := "list") ⟨_, hp, rfl⟩ hf (by decide) s2 F.slot_list_eq (fun _ q => call_meets F.slot_list_eq ⟨_, hp, rfl⟩ F.entry_list_eq (F.args_list_eq_2 _ _) (list_declines p f xs n dd sl2) ⟨hp, fun M => looks hf s2, q⟩)
    (fun _ _ _ q => wpAny_isSame_ref_other (ne_seq hf hp) hf hp (by simp) q) (fun _ _ _ q => wpAny_isSame_ref_other' (ne_seq hf hp).symm hp hf (by simp) q) hu h
theorem fn_tup {p : Addr} {xs : Array Value} {n : Nat} {dd : Option Addr} {sl2 : Array (Option Value)} (hf : s.heap.get? f = some (fnObj od fd sl)) (hp : s.heap.get? p = some { cls := .type "tuple", dict := dd, data := .seq xs n, slots := sl2 }) (hu : A.units < cLine) (h : Q (.bool false) s) : wpAny (model prog w) A (richCompare .Eq (.ref p) (.ref f)) Q E s :=
  to_fn (T := "tuple") ⟨_, hp, rfl⟩ hf (by decide) s1 F.slot_tuple_eq (fun _ q => call_meets F.slot_tuple_eq ⟨_, hp, rfl⟩ F.entry_tuple_eq (F.args_tuple_eq_2 _ _) (tuple_declines p f xs n dd sl2) ⟨hp, fun M => looks hf s1, q⟩)
    (fun _ _ _ q => wpAny_isSame_ref_other (ne_seq hf hp) hf hp (by simp) q) (fun _ _ _ q => wpAny_isSame_ref_other' (ne_seq hf hp).symm hp hf (by simp) q) hu h
theorem tup_fn {p : Addr} {xs : Array Value} {n : Nat} {dd : Option Addr} {sl2 : Array (Option Value)} (hf : s.heap.get? f = some (fnObj od fd sl)) (hp : s.heap.get? p = some { cls := .type "tuple", dict := dd, data := .seq xs n, slots := sl2 }) (hu : A.units < cLine) (h : Q (.bool false) s) : wpAny (model prog w) A (richCompare .Eq (.ref f) (.ref p)) Q E s :=
  of_fn (T := "tuple") ⟨_, hp, rfl⟩ hf (by decide) t1 F.slot_tuple_eq (fun _ q => call_meets F.slot_tuple_eq ⟨_, hp, rfl⟩ F.entry_tuple_eq (F.args_tuple_eq_2 _ _) (tuple_declines p f xs n dd sl2) ⟨hp, fun M => looks hf s1, q⟩)
    (fun _ _ _ q => wpAny_isSame_ref_other (ne_seq hf hp) hf hp (by simp) q) hu h
theorem fn_fn {g : Addr} {od2 : Option Addr} {fd2 : FuncData} {sl2 : Array (Option Value)} (hf : s.heap.get? f = some (fnObj od fd sl)) (hg : s.heap.get? g = some (fnObj od2 fd2 sl2)) (hfg : f ≠ g) (hu : A.units < cLine) (h : Q (.bool false) s) : wpAny (model prog w) A (richCompare .Eq (.ref f) (.ref g)) Q E s := by
  have hT : s.TypeIs (.ref f) "function" := ⟨_, hf, rfl⟩
  have hT2 : s.TypeIs (.ref g) "function" := ⟨_, hg, rfl⟩
  simp only [richCompare, cmpInfo_Eq, hT.oneThing_none]
  refine wpAny_holding (wpAny_bind (wpAny_cRoomFor hu ?_))
  refine wpAny_bind (wpAny_typeOf hT (wpAny_bind (wpAny_typeOf hT2 ?_)))
  have hne : ((Value.type "function" != Value.type "function") = true) = False := by simp
  simp only [hne, if_false]
  refine wpAny_bind (wpAny_pure ?_)
  simp only [Bool.false_eq_true, if_false, Bool.not_false, if_true]
  refine wpAny_bind (m := tryCompare (.ref f) _ (.ref g)) (wpAny_tryCompare_declines hT slot_fn (fn_no hf (fun _ _ _ q => wpAny_isSame_ref_other hfg hf hg (by simp) q) ⟨rfl, ?_⟩))
  refine wpAny_bind (m := tryCompare (.ref g) _ (.ref f)) (wpAny_tryCompare_declines hT2 slot_fn (fn_no hg (fun _ _ _ q => wpAny_isSame_ref_other hfg.symm hg hf (by simp) q) ⟨rfl, ?_⟩))
  exact wpAny_bind (wpAny_rule (wpAny_bind (wpAny_isSame_ref_other hfg hf hg (by simp) (wpAny_pure h))))
end
end Fq
namespace Al
open PySem PyProof.Rows L2 Ow
variable [Al.TabList]
section
variable {X : Cx} {n m : Nat} {d1 d2 : D} {b : Bool} {l1 l2 : List D}
/-- == of list, item by item -/
theorem rcA_lst (h : PairsA X n l1 l2 b) (hl : l1.length = l2.length) : RcA X (n + 1) (.lst l1) (.lst l2) b := fun A pins s σ H B W μ M v1 v2 u1 u2 sb I o S e1 e2 k1 k2 => by
  obtain ⟨p, vs, rfl, hp, rp⟩ := e1
  obtain ⟨q, ws, rfl, hq, rq⟩ := e2
  cases k1
  cases k2
  have two : ∀ {W1 H1 t}, Inv X pins σ H1 t → Go B X.K W μ W1 μ M H1 → ∃ (xs ys : List Value) (n1 n2 : Nat), Vals vs xs ∧ Vals ws ys ∧ t.heap.get? p = some { cls := .type "list", data := .seq xs.toArray n1 } ∧ t.heap.get? q = some { cls := .type "list", data := .seq ys.toArray n2 } ∧ xs.length = l1.length ∧ ys.length = l1.length := fun {W1 H1 t} I1 g => by
    obtain ⟨xs, n1, r1, h1⟩ := lst_at I1 (g.sim.sub _ _ (g.wext _ _ hp))
    obtain ⟨ys, n2, r2, h2⟩ := lst_at I1 (g.sim.sub _ _ (g.wext _ _ hq))
    exact ⟨xs, ys, n1, n2, r1, r2, h1, h2, by rw [← r1.length, rp.length], by rw [← r2.length, hl, rq.length]⟩
  refine Gq.rc_lst (N := l1.length) sb.room.units0 (fun k t => ∃ W' H', Inv X pins σ H' t ∧ Go B X.K W μ W' μ M H' ∧ PairsA X n (l1.drop k) (l2.drop k) b) ?_ ?_ ⟨W, H, I, .refl o S, h⟩
  · rintro k t ⟨W1, H1, I1, g, P⟩
    obtain ⟨xs, ys, n1, n2, rx, ry, tp, tq, lx, ly⟩ := two I1 g
    refine ⟨xs.toArray, ys.toArray, n1, n2, tp, tq, by simpa using lx, by simpa using ly, fun hx hy => ?_⟩
    have hx : k < xs.length := by simpa using hx
    have hy : k < ys.length := by simpa using hy
    obtain ⟨x, v, ex, rdx, rvx⟩ := vals_at (rp.mono g.wext) rx hx
    obtain ⟨y, v', ey, rdy, rvy⟩ := vals_at (rq.mono g.wext) ry hy
    rw [ex, ey] at P
    show wpAny _ _ (eqBool (xs.toArray[k]'(by simpa using hx)) (ys.toArray[k]'(by simpa using hy))) _ _ _
    rw [List.getElem_toArray, List.getElem_toArray]
    generalize hl1 : l1.drop (k + 1) = r1 at P ex
    generalize hl2 : l2.drop (k + 1) = r2 at P ey
    have fin : ∀ {W2 H2 t2}, Inv X pins σ H2 t2 → Go B X.K W μ W2 μ M H2 → Gq.Two p q l1.length (fun _ _ => True) t2 := fun {W2 H2 t2} I2 g2 => by
      obtain ⟨xs, ys, n1, n2, rx, ry, tp, tq, lx, ly⟩ := two I2 g2
      exact ⟨xs.toArray, ys.toArray, n1, n2, tp, tq, by simpa using lx, by simpa using ly, trivial⟩
    cases P with
    | yes hxy r =>
      refine wpAny_mono (hxy A.in1 pins t σ H1 B W1 μ M _ _ _ _ sb.in1 I1 g.ok g.sim rdx rdy rvx rvy) (fun z t2 hz => ?_) fun _ _ z => z
      obtain ⟨rfl, W2, H2, I2, g2⟩ := hz
      exact .inl ⟨rfl, W2, H2, I2, g.trans g2, by rw [hl1, hl2]; exact r⟩
    | no hxy =>
      refine wpAny_mono (hxy A.in1 pins t σ H1 B W1 μ M _ _ _ _ sb.in1 I1 g.ok g.sim rdx rdy rvx rvy) (fun z t2 hz => ?_) fun _ _ z => z
      obtain ⟨rfl, W2, H2, I2, g2⟩ := hz
      exact .inr ⟨rfl, fin I2 (g.trans g2), rfl, W2, H2, I2, g.trans g2⟩
  · rintro t ⟨W1, H1, I1, g, P⟩
    refine ⟨?_, W1, H1, I1, g⟩
    rw [List.drop_length, hl, List.drop_length] at P
    cases P
    rfl
theorem eqA_pure (p1 : d1.pure = true) (p2 : d2.pure = true) (h1 : SeqAt.shaped (toP d1) = true) (h2 : SeqAt.shaped (toP d2) = true) : EqA X n d1 d2 (PyData.eqv (toP d1) (toP d2)) := fun A pins s σ H B W μ M v1 v2 u1 u2 sb I o S e1 e2 k1 k2 => by
  obtain ⟨as, r1⟩ := Dp.reads I (toP d1) v1 u1 (dp_of S.sub p1 e1) k1
  obtain ⟨bs, r2⟩ := Dp.reads I (toP d2) v2 u2 (dp_of S.sub p2 e2) k2
  exact SeqAt.eqAt_reads (toP d1) (toP d2) A s u1 u2 as bs r1 r2 (SeqAt.canLay_of_shaped h1) (SeqAt.canLay_of_shaped h2) (SeqAt.room_of_shaped h1 sb.room.units) X.prog X.w X.xe _ ⟨rfl, W, H, I, .refl o S⟩
open Lm in
theorem lam_obj {W H : Hp} {s : Shared} {pins : List (Addr × Obj)} {σ : L2.St} {f c : Addr} {F : LF} {v : V} (I : Inv X pins σ H s) (e : Same W H) (h : RD X.K W (lamD f c F) v) : v = .ref f ∧ ∃ od fd sl, s.heap.get? f = some (Fq.fnObj od fd sl) := by
  obtain ⟨e1, h2⟩ := h
  refine ⟨e1, ?_⟩
  obtain ⟨od, sl, pm, ctv, hg⟩ := lamO_at I.hok (e _ _ (h2 (f, LamO f F) (by simp)))
  exact ⟨od, _, sl, hg⟩
open Lm in
theorem eqA_lamS {f c c' : Addr} {F F' : LF} : EqA X n (lamD f c F) (lamD f c' F') true := fun A pins s σ H B W μ M v1 v2 u1 u2 sb I o S e1 e2 k1 k2 => by
  obtain ⟨rfl, _⟩ := lam_obj I S.sub e1
  obtain ⟨rfl, _⟩ := lam_obj I S.sub e2
  cases k1
  cases k2
  exact SeqAt.EqAt.same (A := A) (s := s) (.ref f) X.prog X.w X.xe _ ⟨rfl, W, H, I, .refl o S⟩
open Lm in
theorem eqA_lamN {f g c c' : Addr} {F F' : LF} (hfg : f ≠ g) : EqA X n (lamD f c F) (lamD g c' F') false := fun A pins s σ H B W μ M v1 v2 u1 u2 sb I o S e1 e2 k1 k2 => by
  obtain ⟨rfl, od, fd, sl, hf⟩ := lam_obj I S.sub e1
  obtain ⟨rfl, od2, fd2, sl2, hg⟩ := lam_obj I S.sub e2
  cases k1
  cases k2
  exact GQ.eqBool_refG hfg (Fq.fn_fn hf hg hfg sb.room.units0 ⟨false, rfl, rfl, W, H, I, .refl o S⟩)
open Lm in
theorem eqA_tupLam {f c : Addr} {F : LF} {l : List D} : EqA X n (.tup l) (lamD f c F) false := fun A pins s σ H B W μ M v1 v2 u1 u2 sb I o S e1 e2 k1 k2 => by
  obtain ⟨rfl, od, fd, sl, hf⟩ := lam_obj I S.sub e2
  obtain ⟨p, vs, rfl, hp, rp⟩ := e1
  cases k1
  cases k2
  obtain ⟨xs, rx, ⟨⟨c1, o1, t1, s1⟩, g1, rfl, n1, rfl⟩, _⟩ := I.tuple (sqt_mono S.sub hp)
  exact GQ.eqBool_refG (Fq.ne_seq hf g1).symm (Fq.fn_tup hf g1 sb.room.units0 ⟨false, rfl, rfl, W, H, I, .refl o S⟩)
open Lm in
theorem eqA_lamTup {f c : Addr} {F : LF} {l : List D} : EqA X n (lamD f c F) (.tup l) false := fun A pins s σ H B W μ M v1 v2 u1 u2 sb I o S e1 e2 k1 k2 => by
  obtain ⟨rfl, od, fd, sl, hf⟩ := lam_obj I S.sub e1
  obtain ⟨p, vs, rfl, hp, rp⟩ := e2
  cases k1
  cases k2
  obtain ⟨xs, rx, ⟨⟨c1, o1, t1, s1⟩, g1, rfl, n1, rfl⟩, _⟩ := I.tuple (sqt_mono S.sub hp)
  exact GQ.eqBool_refG (Fq.ne_seq hf g1) (Fq.tup_fn hf g1 sb.room.units0 ⟨false, rfl, rfl, W, H, I, .refl o S⟩)
/-- what stands for no function -/
def D.odd : D → Bool | .non => true | .int _ => true | .bl _ => true | .str _ => true | .lst _ => true | _ => false
open Lm in
theorem eqA_oddLam {f c : Addr} {F : LF} (hd : d1.odd = true) : EqA X n d1 (lamD f c F) false := fun A pins s σ H B W μ M v1 v2 u1 u2 sb I o S e1 e2 k1 k2 => by
  obtain ⟨rfl, od, fd, sl, hf⟩ := lam_obj I S.sub e2
  cases k2
  have fin : ∃ W' H', Inv X pins σ H' s ∧ Go B X.K W μ W' μ M H' := ⟨W, H, I, .refl o S⟩
  cases d1 with
  | non =>
    cases e1; cases k1
    unfold eqBool
    refine wpAny_holding (wpAny_ite_split (fun e => nomatch (eq_of_beq e)) fun _ => ?_)
    exact wpAny_bind (Fq.fn_none hf sb.room.units0 (wpAny_truthy_bool ⟨rfl, fin⟩))
  | int i =>
    cases e1
    obtain ⟨t, rfl⟩ := k1
    unfold eqBool
    refine wpAny_holding (wpAny_ite_split (fun e => nomatch (eq_of_beq e)) fun _ => ?_)
    exact wpAny_bind (Fq.fn_int hf sb.room.units0 (wpAny_truthy_bool ⟨rfl, fin⟩))
  | bl i =>
    cases e1; cases k1
    unfold eqBool
    refine wpAny_holding (wpAny_ite_split (fun e => nomatch (eq_of_beq e)) fun _ => ?_)
    exact wpAny_bind (Fq.fn_bool hf sb.room.units0 (wpAny_truthy_bool ⟨rfl, fin⟩))
  | str i =>
    cases e1
    obtain ⟨t, rfl⟩ := k1
    unfold eqBool
    refine wpAny_holding (wpAny_ite_split (fun e => nomatch (eq_of_beq e)) fun _ => ?_)
    exact wpAny_bind (Fq.fn_str hf sb.room.units0 (wpAny_truthy_bool ⟨rfl, fin⟩))
  | lst l =>
    obtain ⟨p, vs, rfl, hp, rp⟩ := e1
    cases k1
    obtain ⟨xs, nx, rx, tp⟩ := lst_at I (S.sub _ _ hp)
    exact GQ.eqBool_refG (Fq.ne_seq hf tp).symm (Fq.fn_lst hf tp sb.room.units0 ⟨false, rfl, rfl, fin⟩)
  | _ => cases hd
end
end Al

/-! texts split, slices, a text's signs, int(text) -/
namespace Al
open PySem PyProof.Rows L2
variable [Al.TabList]
/-- x.split(y) -/
def rSplit : V → List V → Hp → VK → Prop := fun x xs H Q => ∃ a b, x = .str a ∧ xs = [.str b] ∧ (b.length == 0) = false ∧ a.length + 2 ≤ sizeLine ∧ rNewStrs (Txt.split a b) H Q
theorem k_split {X : Cx} : MtR X "str.split" rSplit := mt_split
theorem k_index (K : PySem.W.Frag) {X : Cx} (hK : X.K = K := by rfl) : MtR X "list.index" (rIndex K) := hK ▸ mt_index
def rIntT : List V → Hp → VK → Prop := fun xs H Q => ∃ a n, xs = [.str a] ∧ PySem.intText? a = some n ∧ a.length ≤ 640 ∧ Q (.int n) H
theorem k_intT {X : Cx} : CallR X (.type "int") rIntT := call_int_str
/-- the items of a[lo:hi] -/
def cutL {α : Type} (xs : List α) (lo hi : Option Int) : List α := (xs.drop (HT.sIx xs.length 0 lo)).take (HT.sIx xs.length xs.length hi - HT.sIx xs.length 0 lo)
theorem cutL_map {α β : Type} (f : α → β) (xs : List α) (lo hi : Option Int) : cutL (xs.map f) lo hi = (cutL xs lo hi).map f := by
  unfold cutL
  rw [List.length_map, List.map_take, List.map_drop]
theorem RDs.cut {K : PySem.W.Frag} {W : Hp} {l : List D} {vs : List V} (h : RDs K W l vs) (lo hi : Option Int) : RDs K W (cutL l lo hi) (cutV vs lo hi) := by
  unfold cutL cutV
  rw [h.length]
  exact RDs.take _ (RDs.drop _ h)
def AO (B : Base) (K : PySem.W.Frag) (tt : TO) (σ : AEnv) (M : List MO) (Φ : Option Int → List MO → Prop) : Prop := ∀ W μ H τ, Ok B W μ H → Sim K W μ M H → RE K W μ σ τ → ∀ Q : Option Int → Hp → Prop,
  (∀ b M' W' μ' H', Φ b M' → Go B K W μ W' μ' M' H' → Q b H') → tt τ H Q
section
variable {B : Base} {K : PySem.W.Frag} {σ : AEnv} {M : List MO} {to te : TE} {t ta : TA} {tl th : TO} {x y : AV} {Φ : AV → List MO → Prop}
theorem ao_none {Φ : Option Int → List MO → Prop} (h : Φ none M) : AO B K tNoPart σ M Φ := fun W μ H τ o s e Q q => q _ _ _ _ _ h (.refl o s)
theorem ao_some {Φ : Option Int → List MO → Prop} (h : AE B K te σ M fun x M1 => ∃ i, x = .d (.int i) ∧ Φ (some i) M1) : AO B K (tPart te) σ M Φ := fun W μ H τ o s e Q q =>
  h W μ H τ o s e _ fun x M1 W1 μ1 H1 v ⟨i, e1, p⟩ f1 r1 => by
    subst e1; cases r1
    exact ⟨i, rfl, q _ _ _ _ _ p f1⟩
/-- a list's slice -/
theorem ae_sliceL (h : AE B K te σ M fun x M1 => ∃ l, x = .d (.lst l) ∧ AO B K tl σ M1 fun lo M2 => AO B K th σ M2 fun hi M3 => Φ (.d (.lst (cutL l lo hi))) M3) : AE B K (tSl (uSl K) te tl th) σ M Φ := fun W μ H τ o s e Q q =>
  h W μ H τ o s e _ fun x M1 W1 μ1 H1 v ⟨l, e1, p⟩ f1 r1 => by
    subst e1
    refine p W1 μ1 H1 τ f1.ok f1.sim (f1.re e) _ fun lo M2 W2 μ2 H2 p2 f2 => p2 W2 μ2 H2 τ f2.ok f2.sim ((f1.trans f2).re e) _ fun hi M3 W3 μ3 H3 p3 f3 => .inl ?_
    obtain ⟨a, vs, rfl, h1, h2⟩ := r1
    have f23 := f2.trans f3
    refine ⟨a, vs, rfl, SqL.of (f3.sim.sub _ _ (f23.wext _ _ h1)), fun p hp => ?_⟩
    have g := go_new (u := .lst (cutV vs lo hi)) f3.ok f3.sim hp
    exact q _ _ _ _ _ _ p3 (f1.trans (f23.trans g)) ⟨p, _, rfl, upd_same, (RDs.mono (f23.trans g).wext h2).cut lo hi⟩
theorem as_par3 {i j k : Nat} {Φ : AEnds} (h : AA B K ta σ M fun xs M1 => ∃ x y z, xs = [x, y, z] ∧ Φ.nx (((σ.set i (some x)).set j (some y)).set k (some z)) M1) : AS B K (tPar3 i j k ta) σ M Φ := fun W μ H τ o s e E f =>
  h W μ H τ o s e _ fun xs M1 W1 μ1 H1 vs ⟨x, y, z, e1, p⟩ f1 r1 => by
    subst e1
    obtain ⟨v, r, rfl, r2, w, r', rfl, r3, u, r5, rfl, r6, r4⟩ := r1
    cases r4
    exact ⟨v, w, u, rfl, f.nx _ _ _ _ _ _ p f1 ((((f1.re e).set r2 i).set r3 j).set r6 k)⟩
theorem ae_split (h : AE B K to σ M fun x M1 => ∃ a, x = .d (.str a) ∧ AA B K t σ M1 fun ys M2 => ∃ b : Str, ys = [.d (.str b)] ∧ (b.length == 0) = false ∧ a.length + 2 ≤ sizeLine ∧ Φ (.d (.lst ((Txt.split a b).map D.str))) M2) :
    AE B K (tBM K "str" rSplit to t) σ M Φ := fun W μ H τ o s e Q q =>
  h W μ H τ o s e _ fun x M1 W1 μ1 H1 v ⟨a, e1, p⟩ f1 r1 => by
    subst e1
    cases r1
    refine ⟨rfl, p W1 μ1 H1 τ f1.ok f1.sim (f1.re e) _ fun ys M2 W2 μ2 H2 ws ⟨b, e3, hb, hz, p2⟩ f2 r2 => ?_⟩
    subst e3
    obtain ⟨w, rfl, rw_⟩ := ra_one r2
    cases rw_
    refine ⟨a, b, rfl, rfl, hb, hz, fun p hp => ?_⟩
    have g := go_new (u := .lst ((Txt.split a b).map V.str)) f2.ok f2.sim hp
    refine q _ _ _ _ _ _ p2 (f1.trans (f2.trans g)) ⟨p, _, rfl, upd_same, ?_⟩
    have : ∀ zs : List Str, RDs K (upd W2 p (.lst ((Txt.split a b).map V.str))) (zs.map D.str) (zs.map V.str) := fun zs => by
      induction zs with
      | nil => rfl
      | cons z zs ih => exact ⟨_, _, rfl, rfl, ih⟩
    exact this _
theorem flat_strs (zs : List Str) : (zs.map V.str).all flatV = true := by simp [flatV]
theorem inV_strs (z : Str) (zs : List Str) : inV (.str z) (zs.map V.str) = decide (z ∈ zs) := by
  induction zs with
  | nil => rfl
  | cons a zs ih =>
    unfold inV at ih ⊢
    rw [List.map_cons, List.any_cons, ih]
    show (eqV (.str a) (.str z) || _) = _
    have e : eqV (.str a) (.str z) = decide (z = a) := by
      show (a == z) = _
      rw [Bool.eq_iff_iff, beq_iff_eq, decide_eq_true_iff]
      exact ⟨Eq.symm, Eq.symm⟩
    rw [e]
    by_cases h : z = a <;> simp [h, List.mem_cons]
theorem ur_inS {z : Str} {zs : List Str} {neg : Bool} (h : STV M y (zs.map D.str)) (k : Φ (.d (.bl (if neg then !decide (z ∈ zs) else decide (z ∈ zs)))) M) : AR B K (rIn K neg) (.d (.str z)) y M Φ := fun W μ H u w o s hu hw Q q => by
  obtain ⟨a, vs, rfl, h1, h2⟩ := h.run s hw
  cases hu
  have e := RDs.strs h2
  subst e
  refine ⟨a, _, rfl, h1, rfl, flat_strs _, ?_⟩
  rw [inV_strs]
  exact q _ _ _ _ _ _ k (.refl o s) rfl
/-- xs.index(z) -/
theorem ae_index (h : AE B K to σ M fun x M1 => ∃ zs : List Str, x = .d (.lst (zs.map D.str)) ∧ AA B K t σ M1 fun ys M2 => ∃ (z : Str), ys = [.d (.str z)] ∧ z ∈ zs ∧ Φ (.d (.int (zs.idxOf z : Nat))) M2) :
    AE B K (tBM K "list" (rIndex K) to t) σ M Φ := fun W μ H τ o s e Q q =>
  h W μ H τ o s e _ fun x M1 W1 μ1 H1 v ⟨zs, e1, p⟩ f1 r1 => by
    subst e1
    obtain ⟨a, vs, rfl, h1, h2⟩ := r1
    have ev := RDs.strs h2
    subst ev
    refine ⟨.inl ⟨rfl, _, SqL.of (f1.sim.sub _ _ h1)⟩, p W1 μ1 H1 τ f1.ok f1.sim (f1.re e) _ fun ys M2 W2 μ2 H2 ws ⟨z, e3, hz, p2⟩ f2 r2 => ?_⟩
    subst e3
    obtain ⟨w, rfl, rw_⟩ := ra_one r2
    cases rw_
    have hlt := List.idxOf_lt_length_iff.mpr hz
    refine ⟨a, zs.map V.str, .str z, zs.idxOf z, .str z, rfl, rfl, SqL.of (f2.sim.sub _ _ (f2.wext _ _ h1)), rfl, flat_strs _, ?_, ?_, fun m z' hm hz' => ?_, q _ _ _ _ _ _ p2 (f1.trans f2) rfl⟩
    · rw [List.getElem?_map, List.getElem?_eq_getElem hlt, List.getElem_idxOf]; rfl
    · show (z == z) = true
      exact beq_self_eq_true z
    · rw [List.getElem?_map] at hz'
      obtain ⟨b, hb, rfl⟩ := Option.map_eq_some_iff.mp hz'
      show (b == z) = false
      have := List.not_of_lt_findIdx (p := (· == z)) (xs := zs) (i := m) hm
      obtain ⟨lm, eb⟩ := List.getElem?_eq_some_iff.mp hb
      rw [← eb]
      simpa using this
theorem uc_intT {z : Str} {n : Int} (h1 : PySem.intText? z = some n) (h2 : z.length ≤ 640) (k : Φ (.d (.int n)) M) : AC B K rIntT [.d (.str z)] M Φ := fun W μ H us o s r Q q => by
  obtain ⟨v, rfl, r'⟩ := ra_one r
  cases r'
  exact ⟨z, n, rfl, h1, h2, q _ _ _ _ _ _ k (.refl o s) rfl⟩
/-- a sign in a text -/
theorem ur_inSg {c : Nat} {z : Str} (k : Φ (.d (.bl (decide (c ∈ z.cps.toList)))) M) : AR B K rInS (.d (.str ⟨#[c]⟩)) (.d (.str z)) M Φ := fun W μ H u w o s hu hw Q q => by
  cases hu; cases hw
  exact ⟨c, z, rfl, rfl, q _ _ _ _ _ _ k (.refl o s) rfl⟩
theorem ur_ixSg {z : Str} {i : Int} {c : Nat} (hz : z.length ≤ sizeLine) (hc : atI z.cps.toList i = some c) (k : Φ (.d (.str ⟨#[c]⟩)) M) : AR B K (rIx K) (.d (.str z)) (.d (.int i)) M Φ := fun W μ H u w o s hu hw Q q => by
  cases hu; cases hw
  exact .inr (.inr ⟨z, i, c, rfl, rfl, hz, hc, q _ _ _ _ _ _ k (.refl o s) rfl⟩)
theorem ai_str {Φ : List D → List MO → Prop} (h : AE B K te σ M fun x M1 => ∃ z : Str, x = .d (.str z) ∧ Φ (z.cps.toList.map fun c => .str ⟨#[c]⟩) M1) : AI B K (iStr te) σ M Φ := fun W μ H τ o s e R q =>
  h W μ H τ o s e _ fun x M1 W1 μ1 H1 v ⟨z, e1, p⟩ f1 r1 => by
    subst e1; cases r1
    refine ⟨z, rfl, q _ _ _ _ _ _ p f1 fun W2 H2 M2 e2 s1 sm _ => ⟨fun i d hd => ?_, ?_⟩⟩
    · rw [List.getElem?_map] at hd
      obtain ⟨c, hc, rfl⟩ := Option.map_eq_some_iff.mp hd
      rw [Array.getElem?_toList] at hc
      refine ⟨(Array.getElem?_eq_some_iff.mp hc).1, fun x H' ⟨e1, c', e3, e4⟩ => .inl ⟨e1, ?_⟩⟩
      rw [hc] at e3; cases e3
      exact e4
    · show z.cps.size ≤ _
      rw [List.length_map, Array.length_toList]; exact Nat.le_refl _
/-- text * int -/
def rMulS : R2 := fun x y H Q => ∃ (z : Str) (n : Int), x = .str z ∧ y = .int n ∧ 1 < n ∧ n < 1000 ∧ 0 < z.length ∧ z.length < 1000 ∧ Str.length ⟨(List.replicate n.toNat z.cps).foldl (· ++ ·) #[]⟩ ≤ sizeLine ∧ Q (.str ⟨(List.replicate n.toNat z.cps).foldl (· ++ ·) #[]⟩) H
theorem op_mulS {X : Cx} : OpR X (binaryOp .Mult) rMulS := by
  intro pins s σ H x y v u Q I rx ry h
  obtain ⟨z, n, rfl, rfl, h1, h2, h3, h4, h5, q⟩ := h
  obtain ⟨t, rfl⟩ := rx
  obtain ⟨t', rfl⟩ := ry
  have hn : (n == 1 || z.length == 0) = false := by
    rw [Bool.or_eq_false_iff]
    exact ⟨by simpa using (by omega : n ≠ 1), by simpa using (by omega : z.length ≠ 0)⟩
  refine PySem.P.mul_str (by simp; omega) (fun _ _ => ?_) (fun _ _ => ?_) ?_
  · rw [Int.not_lt]
    have h8 : n ≤ 1000 := by omega
    have h6 : (0 : Int) < n := by omega
    rw [Int.le_ediv_iff_mul_le h6]
    have h7 : (z.length : Int) * n ≤ 1000 * 1000 := Int.mul_le_mul (by omega) h8 (by omega) (by omega)
    omega
  · show decide (_ > sizeLine) = false
    rw [decide_eq_false_iff_not, sizeLine_eq]
    have h7 : z.length * n.toNat ≤ 1000 * 1000 := Nat.mul_le_mul (by omega) (by omega)
    omega
  · rw [if_neg (by omega), if_neg (by rw [hn]; exact Bool.false_ne_true)]
    exact ⟨h5, .str _, H, I.tok _, ⟨_, rfl⟩, q⟩
theorem ur_mulS {z : Str} {n : Int} (h1 : 1 < n) (h2 : n < 1000) (h3 : 0 < z.length) (h4 : z.length < 1000) (h5 : Str.length ⟨(List.replicate n.toNat z.cps).foldl (· ++ ·) #[]⟩ ≤ sizeLine) (k : Φ (.d (.str ⟨(List.replicate n.toNat z.cps).foldl (· ++ ·) #[]⟩)) M) : AR B K rMulS (.d (.str z)) (.d (.int n)) M Φ := fun W μ H u w o s hu hw Q q => by
  cases hu; cases hw
  exact ⟨z, n, rfl, rfl, h1, h2, h3, h4, h5, q _ _ _ _ _ _ k (.refl o s) rfl⟩
/-! == of lists of texts and of nothing -/
end
theorem pures_strs : ∀ zs : List Str, D.pures (zs.map D.str) = true
  | [] => rfl
  | z :: zs => by show (D.pure (.str z) && D.pures (zs.map D.str)) = true; rw [pures_strs zs]; rfl
theorem lay_strs : ∀ zs : List Str, zs.all PyData.strOk = true → PyData.canLayAll0 (toPs (zs.map D.str)) = true ∧ PyData.depthAll (toPs (zs.map D.str)) = 0
  | [], _ => ⟨by simp [toPs, PyData.canLayAll0], by simp [toPs, PyData.depthAll]⟩
  | z :: zs, h => by
    rw [List.all_cons, Bool.and_eq_true] at h
    obtain ⟨h1, h2⟩ := lay_strs zs h.2
    constructor
    · show PyData.canLayAll0 (.str z :: toPs (zs.map D.str)) = true
      simp only [PyData.canLayAll0, PyData.canLay0, h1, h.1, Bool.and_true]
    · show PyData.depthAll (.str z :: toPs (zs.map D.str)) = 0
      simp only [PyData.depthAll, PyData.depth, h2, Nat.max_self]
theorem shaped_strs {zs : List Str} (h : zs.all PyData.strOk = true) : SeqAt.shaped (.list (toPs (zs.map D.str))) = true := by
  obtain ⟨h1, h2⟩ := lay_strs zs h
  unfold SeqAt.shaped
  simp only [PyData.canLay0, PyData.depth, h1, h2]
  rfl
theorem eqv_strs0 : ∀ zs : List Str, PyData.eqv (.list (toPs (zs.map D.str))) (.list (toPs [])) = decide (zs = [])
  | [] => by simp [toPs, PyData.eqv, PyData.eqvAll]
  | z :: zs => by simp [toPs, toP, PyData.eqv, PyData.eqvAll]
section
variable {B : Base} {K : PySem.W.Frag} {M : List MO} {Φ : AV → List MO → Prop}
theorem ur_eqS0 {zs : List Str} (h : zs.all PyData.strOk = true) (k : Φ (.d (.bl (decide (zs = [])))) M) : AR B K (uEq K) (.d (.lst (zs.map D.str))) (.d (.lst [])) M Φ :=
  ur_eqP (.d (x := .lst (zs.map D.str)) (pures_strs zs)) (.d (x := .lst []) rfl) (shaped_strs h) (shaped_strs (zs := []) rfl) (by have e := eqv_strs0 zs; unfold toP; rw [e]; exact k)
theorem ur_neS0 {zs : List Str} (h : zs.all PyData.strOk = true) (k : Φ (.d (.bl (!decide (zs = [])))) M) : AR B K (uNe K) (.d (.lst (zs.map D.str))) (.d (.lst [])) M Φ :=
  ur_neP (.d (x := .lst (zs.map D.str)) (pures_strs zs)) (.d (x := .lst []) rfl) (shaped_strs h) (shaped_strs (zs := []) rfl) (by have e := eqv_strs0 zs; unfold toP; rw [e]; exact k)
end
end Al

/-! != of tuples, in of a list, own == != len repr by MethAt, makes by keywords, new lambdas -/
namespace Gq
open PySem PySem.SeqAt
open AutoSeq1 (wpAny_loadPart')
open MeetsSeq MeetsSeq2 MeetsSeq3 SeqRoads2
section
variable {prog : Program} {w : World} {A : Around} {R : Result → Shared → Prop}
/-- != of two tuples -/
theorem tup_ne (p q : Addr) (xs ys : Array Value) (nx ny : Nat) (ox oy : Option Addr) (sx sy : Array (Option Value)) (J : Nat → Shared → Prop)
    (each : ∀ k (hx : k < xs.size) (hy : k < ys.size) s, J k s →
      wpAny (model prog w) A.in1 (eqBool xs[k] ys[k]) (fun r t => (r = true ∧ J (k + 1) t) ∨ (r = false ∧ R (.ok (.ret (.bool true))) t)) (fun e t => R (.error e) t) s)
    (last : ∀ s, J (min xs.size ys.size) s → R (.ok (.ret (.bool (xs.size != ys.size)))) s)
    {s : Shared} (hp : s.heap.get? p = some (isTup ox sx nx xs)) (hq : s.heap.get? q = some (isTup oy sy ny ys)) (h0 : J 0 s) :
    wpAny (model prog w) A.in1 (Builtin.«tuple.__ne__» ⟨[.ref p, .ref q], []⟩) (GQ.FinOf prog w A R) (fun e t => R (.error e) t) s := by
  have sub := AutoSeq1.sub_tuple_tuple
  have zl : (xs.toList.zip ys.toList).length = min xs.size ys.size := by simp
  have start := h0
  obtain ⟨s1, s2, s3, s4, s5⟩ := s
  wp_walk using wpAny_loadPart' hp, wpAny_loadPart' hq, wpAny_forIn_list _ (fun rest acc t => acc.1 = none ∧ ∃ k, rest = (xs.toList.zip ys.toList).drop k ∧ k ≤ min xs.size ys.size ∧ J k t) _
  case turn =>
    rintro ⟨u, v⟩ rest acc t ⟨ha, k, hr, hk, hJ⟩
    by_cases hlt : k < (xs.toList.zip ys.toList).length
    · have hm : k < min xs.size ys.size := by rw [← zl]; exact hlt
      have hx : k < xs.size := by omega
      have hy : k < ys.size := by omega
      rw [List.drop_eq_getElem_cons hlt] at hr
      injection hr with huv hrest
      obtain rfl : u = xs[k] := by simpa using congrArg Prod.fst huv
      obtain rfl : v = ys[k] := by simpa using congrArg Prod.snd huv
      refine wpAny_bind (wpAny_mono (each k hx hy t hJ) (fun r t2 z => ?_) fun _ _ z => z)
      rcases z with ⟨rfl, z⟩ | ⟨rfl, z⟩
      · wp_walk
        exact ⟨rfl, k + 1, hrest, hm, z⟩
      · wp_walk
        exact z
    · rw [List.drop_of_length_le (Nat.le_of_not_lt hlt)] at hr
      cases hr
  case fin =>
    rintro ⟨a1, a2⟩ t ⟨ha, k, hr, hk, hJ⟩
    simp only at ha
    subst ha
    have hge : min xs.size ys.size ≤ k := by
      rw [← zl]
      refine Nat.le_of_not_lt fun hlt => ?_
      rw [List.drop_eq_getElem_cons hlt] at hr
      cases hr
    obtain rfl : k = min xs.size ys.size := Nat.le_antisymm hk hge
    have := last t hJ
    wp_walk
    simpa [Builtin.Tuple.tupleCompareSizes] using this
  case h =>
    exact ⟨rfl, 0, rfl, Nat.zero_le _, start⟩
end
section
variable {prog : Program} {w : World} {A : Around} {E : Value → Shared → Prop} {s : Shared} {p q : Addr} {Q : Value → Shared → Prop}
theorem rc_tupN {xs ys : Array Value} (hu : A.units < cLine) (J : Nat → Shared → Prop) (hp : s.heap.IsTuple p xs) (hq : s.heap.IsTuple q ys)
    (each : ∀ k (hx : k < xs.size) (hy : k < ys.size) s, J k s → wpAny (model prog w) A.in1 (eqBool xs[k] ys[k]) (fun r t => (r = true ∧ J (k + 1) t) ∨ (r = false ∧ Q (.bool true) t)) E s)
    (last : ∀ s, J (min xs.size ys.size) s → Q (.bool (xs.size != ys.size)) s) (h0 : J 0 s) : wpAny (model prog w) A (richCompare .NotEq (.ref p) (.ref q)) Q E s := by
  obtain ⟨⟨c1, o1, t1, l1⟩, g1, rfl, n1, rfl⟩ := id hp
  obtain ⟨⟨c2, o2, t2, l2⟩, g2, rfl, n2, rfl⟩ := id hq
  refine wpAny_richCompare_same_room (op := .NotEq) ⟨_, g1, rfl⟩ ⟨_, g2, rfl⟩ F.slot_tuple_ne (GQ.call_here F.slot_tuple_ne ⟨_, g1, rfl⟩ F.entry_tuple_ne (F.args_tuple_ne_2 _ _) ?_) hu
  refine tup_ne (R := wants (fun v t => v ≠ .notImplemented ∧ Q v t) E) p q xs ys n1 n2 o1 o2 l1 l2 J (fun k hx hy s' hJ => ?_) (fun s' hJ => ⟨(fun z => nomatch z), last s' hJ⟩) g1 g2 h0
  refine wpAny_mono (each k hx hy s' hJ) (fun r t z => z.imp id fun z => ⟨z.1, (fun z => nomatch z), z.2⟩) fun _ _ z => z
end
end Gq
namespace Al
open PySem PyProof.Rows L2 Ow Lm Gx
variable [Al.TabList]
section
variable {X : Cx} {n m : Nat} {d1 d2 : D} {b : Bool} {l1 l2 : List D}
/-- richCompare by != : b is whether they are equal -/
def NeA (X : Cx) (n : Nat) (d1 d2 : D) (b : Bool) : Prop := ∀ (A : Around) (pins : List (Addr × Obj)) (s : Shared) (σ : L2.St) (H : Hp) (B : Base) (W : Hp) (μ : List Addr) (M : List MO) (v1 v2 : V) (u1 u2 : Value),
  Sub X n A → Inv X pins σ H s → Ok B W μ H → Sim X.K W μ M H → RD X.K W d1 v1 → RD X.K W d2 v2 → RelV v1 u1 → RelV v2 u2 →
    wpAny (model X.prog X.w) A (richCompare .NotEq u1 u2) (fun r t => r = .bool (!b) ∧ ∃ W' H', Inv X pins σ H' t ∧ Go B X.K W μ W' μ M H') X.xe s
theorem neA_tup (h : PairsA X n l1 l2 b) : NeA X (n + 1) (.tup l1) (.tup l2) b := fun A pins s σ H B W μ M v1 v2 u1 u2 sb I o S e1 e2 k1 k2 => by
  obtain ⟨p, vs, rfl, hp, rp⟩ := e1
  obtain ⟨q, ws, rfl, hq, rq⟩ := e2
  cases k1
  cases k2
  obtain ⟨xs, rx, tp, _⟩ := I.tuple (sqt_mono S.sub hp)
  obtain ⟨ys, ry, tq, _⟩ := I.tuple (sqt_mono S.sub hq)
  have lx : xs.length = l1.length := by rw [← rx.length, rp.length]
  have ly : ys.length = l2.length := by rw [← ry.length, rq.length]
  refine Gq.rc_tupN (xs := xs.toArray) (ys := ys.toArray) sb.room.units0 (fun k t => ∃ W' H', Inv X pins σ H' t ∧ Go B X.K W μ W' μ M H' ∧ PairsA X n (l1.drop k) (l2.drop k) b) tp tq ?_ ?_ ⟨W, H, I, .refl o S, h⟩
  · rintro k hx hy t ⟨W1, H1, I1, g, P⟩
    have hx : k < xs.length := by simpa using hx
    have hy : k < ys.length := by simpa using hy
    obtain ⟨x, v, ex, rdx, rvx⟩ := vals_at (rp.mono g.wext) rx hx
    obtain ⟨y, v', ey, rdy, rvy⟩ := vals_at (rq.mono g.wext) ry hy
    rw [ex, ey] at P
    show wpAny _ _ (eqBool (xs.toArray[k]'(by simpa using hx)) (ys.toArray[k]'(by simpa using hy))) _ _ _
    rw [List.getElem_toArray, List.getElem_toArray]
    generalize hl1 : l1.drop (k + 1) = r1 at P ex
    generalize hl2 : l2.drop (k + 1) = r2 at P ey
    cases P with
    | yes hxy r =>
      refine wpAny_mono (hxy A.in1 pins t σ H1 B W1 μ M _ _ _ _ sb.in1 I1 g.ok g.sim rdx rdy rvx rvy) (fun z t2 hz => ?_) fun _ _ z => z
      obtain ⟨rfl, W2, H2, I2, g2⟩ := hz
      exact .inl ⟨rfl, W2, H2, I2, g.trans g2, r⟩
    | no hxy =>
      refine wpAny_mono (hxy A.in1 pins t σ H1 B W1 μ M _ _ _ _ sb.in1 I1 g.ok g.sim rdx rdy rvx rvy) (fun z t2 hz => ?_) fun _ _ z => z
      obtain ⟨rfl, W2, H2, I2, g2⟩ := hz
      exact .inr ⟨rfl, rfl, W2, H2, I2, g.trans g2⟩
  · rintro t ⟨W1, H1, I1, g, P⟩
    refine ⟨?_, W1, H1, I1, g⟩
    have sx : xs.toArray.size = l1.length := by simpa using lx
    have sy : ys.toArray.size = l2.length := by simpa using ly
    rw [sx, sy] at P ⊢
    congr 1
    rcases Nat.lt_trichotomy l1.length l2.length with z | z | z
    · rw [Nat.min_eq_left (Nat.le_of_lt z), List.drop_length, List.drop_eq_getElem_cons z] at P
      cases P
      exact bne_iff_ne.mpr (Nat.ne_of_lt z)
    · rw [z, Nat.min_self, List.drop_length, show l1.drop l2.length = [] from by rw [← z, List.drop_length]] at P
      cases P
      rw [z]
      exact bne_self_eq_false _
    · rw [Nat.min_eq_right (Nat.le_of_lt z), List.drop_length, List.drop_eq_getElem_cons z] at P
      cases P
      exact bne_iff_ne.mpr (Nat.ne_of_gt z)
/-- what the same object may be is equal, by the heap -/
def SameI (X : Cx) (d1 d2 : D) (b : Bool) : Prop := ∀ (pins : List (Addr × Obj)) (s : Shared) (σ : L2.St) (H W : Hp) (v : V), Inv X pins σ H s → Same W H → RD X.K W d1 v → RD X.K W d2 v → b = true
theorem RcA.eqI (h : RcA X n d1 d2 b) (hs : SameI X d1 d2 b) (r1 : d1.isRef = true) (r2 : d2.isRef = true) : EqA X n d1 d2 b := fun A pins s σ H B W μ M v1 v2 u1 u2 sb I o S e1 e2 k1 k2 => by
  obtain ⟨p, rfl⟩ := e1.ref r1
  obtain ⟨q, rfl⟩ := e2.ref r2
  cases k1
  cases k2
  by_cases hpq : p = q
  · subst hpq
    obtain rfl := hs pins s σ H W _ I S.sub e1 e2
    exact SeqAt.EqAt.same (A := A) (s := s) (.ref p) X.prog X.w X.xe _ ⟨rfl, W, H, I, .refl o S⟩
  · refine GQ.eqBool_refG hpq (wpAny_mono (h A pins s σ H B W μ M _ _ _ _ sb I o S e1 e2 rfl rfl) (fun r t z => ?_) fun _ _ z => z)
    obtain ⟨rfl, z⟩ := z
    exact ⟨b, rfl, rfl, z⟩
/-- the own == of an instance is run, below the running body -/
theorem own_run {CX : CXT} {g : Addr} {fd : FuncData} {ps : List Str} {asp : ASp} {E : XK} {A : Around} {pins : List (Addr × Obj)} {s : Shared} {σ : L2.St} {H W : Hp} {B : Base} {μ : List Addr} {M : List MO} {v1 v2 : V} {u1 u2 : Value} (mono : Mono asp) (F : FnOk X.prog X.w X.K X.mg X.base CX n g fd ps (conc X.K asp)) (hb : Binds X.K fd ps []) (hx : Passes CX X E)
    (h : asp [.d d1, .d d2] [] (fun z M' => z = .d (.bl b) ∧ M' = []) (fun _ _ => False)) (sb : Sub X n A) (I : Inv X pins σ H s) (o : Ok B W μ H) (S : Sim X.K W μ M H) (e1 : RD X.K W d1 v1) (e2 : RD X.K W d2 v2) (k1 : RelV v1 u1) (k2 : RelV v2 u2) :
    wpAny (model X.prog X.w) A (call (.ref g) [u1, u2]) (PySem.W.CmpBack fun r t => r = .bool b ∧ ∃ W' H', Inv X pins σ H' t ∧ Go B X.K W μ W' μ M H') X.xe s := by
  have e0 : Env0 X.prog X.w X.K X.mg X.base A X.stack s H := by
    have e := I.env0
    exact ⟨by rw [sb.fr]; exact e.frames, e.mod, e.bs, e.bsz, e.funs, e.frf, e.hok, e.bare⟩
  have sent : Sent asp ([d1, d2].map AV.d) M (fun z M' => z = .d (.bl b) ∧ M' = M) (fun _ _ => False) := sent0 mono (mono _ _ _ _ _ _ (fun z M' q => ⟨q.2, .bl b, q.1, rfl, rfl⟩) (fun _ _ z => z.elim) h)
  have run : conc X.K asp [v1, v2] H (fun v H' => v = .bl b ∧ ∃ W', Go B X.K W μ W' μ M H') E := sent_run mono o S (ras_cons (x := .d d1) (show RA X.K W μ (.d d1) _ from e1) (ras_cons (x := .d d2) (show RA X.K W μ (.d d2) _ from e2) ras_nil)) sent (fun z M' W' μ' H' v p f r => by
    obtain ⟨rfl, rfl⟩ := p
    cases r
    obtain ⟨e, rfl⟩ := f.mext
    have hl := f.sim.len
    rw [List.length_append, ← S.len] at hl
    obtain rfl : e = [] := List.length_eq_zero_iff.mp (by omega)
    rw [List.append_nil] at f
    exact ⟨rfl, W', f⟩) efits_none
  refine wpAny_mono (run_below (us := [u1, u2]) (vs := [v1, v2]) F hb sb.room e0 hx I (.cons k1 (.cons k2 .nil)) run) (fun r t z => ?_) fun _ _ z => z
  obtain ⟨z, H', I', rz, rfl, W', g2⟩ := z
  exact cmpback rz (by cases rz; exact ⟨rfl, W', H', I', g2⟩)
def D.forE : D → Bool | .non => true | .int _ => true | .str _ => true | .lst _ => true | .tup _ => true | _ => false
/-- what stands left of an instance and declines -/
theorem eqA_forIns {CX : CXT} {C g : Addr} {fd : FuncData} {ps : List Str} {asp : ASp} {E : XK} {ns : List Str} {l : List D} (mono : Mono asp) (hc : OwnC X.K C) (hs : OwnM X.K C "__eq__" g) (F : FnOk X.prog X.w X.K X.mg X.base CX n g fd ps (conc X.K asp)) (hb : Binds X.K fd ps []) (hx : Passes CX X E)
    (hd : d1.forE = true) (h : asp [.d (.ins C ns l), .d d1] [] (fun z M' => z = .d (.bl b) ∧ M' = []) (fun _ _ => False)) : EqA X n d1 (.ins C ns l) b := fun A pins s σ H B W μ M v1 v2 u1 u2 sb I o S e1 e2 k1 k2 => by
  have run := fun {u1 : Value} {v1 : V} (e1 : RD X.K W d1 v1) (k1 : RelV v1 u1) => own_run (E := E) (u1 := u2) (u2 := u1) mono F hb hx h sb I o S e2 e1 k2 k1
  have e2' := e2
  obtain ⟨a, dx, vs, rfl, h1, _⟩ := e2'
  cases k2
  obtain ⟨od, J⟩ := inst_at I (S.sub _ _ h1)
  have hu := sb.room.units0
  cases d1 with
  | non =>
    cases e1; cases k1
    have rc := rc_right (T := "NoneType") hu I.kIn J (show s.TypeIs .none "NoneType" from rfl) PySem.F.slot_NoneType_eq hc.n hs.hs hs.hf (fun Q' q => call_gives PySem.F.slot_NoneType_eq (show s.TypeIs .none "NoneType" from rfl) PySem.F.entry_NoneType_eq (PySem.F.args_NoneType_eq_2 _ _) (SeqAt.NoneType___eq___none_ref_0 a) q) (run (v1 := .non) rfl rfl)
    unfold eqBool
    refine wpAny_holding (wpAny_ite_split (fun e => nomatch (eq_of_beq e)) fun _ => ?_)
    exact wpAny_bind (wpAny_mono rc (fun r t z => by obtain ⟨rfl, z⟩ := z; exact wpAny_truthy_bool ⟨rfl, z⟩) fun _ _ z => z)
  | int i =>
    cases e1
    obtain ⟨t, rfl⟩ := k1
    have rc := rc_right (T := "int") hu I.kIn J (show s.TypeIs (.int i t) "int" from rfl) PySem.F.slot_int_eq hc.i hs.hs hs.hf (fun Q' q => call_meets PySem.F.slot_int_eq (show s.TypeIs (.int i t) "int" from rfl) PySem.F.entry_int_eq (PySem.F.args_int_eq_2 _ _) (int_declines i t a C dx) ⟨J.at_, fun M => inst_sub I.kIn J hc.i, q⟩) (run (v1 := .int i) rfl ⟨t, rfl⟩)
    unfold eqBool
    refine wpAny_holding (wpAny_ite_split (fun e => nomatch (eq_of_beq e)) fun _ => ?_)
    exact wpAny_bind (wpAny_mono rc (fun r t z => by obtain ⟨rfl, z⟩ := z; exact wpAny_truthy_bool ⟨rfl, z⟩) fun _ _ z => z)
  | str i =>
    cases e1
    obtain ⟨t, rfl⟩ := k1
    have rc := rc_right (T := "str") hu I.kIn J (show s.TypeIs (.str i t) "str" from rfl) PySem.F.slot_str_eq hc.s hs.hs hs.hf (fun Q' q => call_meets PySem.F.slot_str_eq (show s.TypeIs (.str i t) "str" from rfl) PySem.F.entry_str_eq (PySem.F.args_str_eq_2 _ _) (str_declines i t a C dx) ⟨J.at_, fun M => inst_sub I.kIn J hc.s, q⟩) (run (v1 := .str i) rfl ⟨t, rfl⟩)
    unfold eqBool
    refine wpAny_holding (wpAny_ite_split (fun e => nomatch (eq_of_beq e)) fun _ => ?_)
    exact wpAny_bind (wpAny_mono rc (fun r t z => by obtain ⟨rfl, z⟩ := z; exact wpAny_truthy_bool ⟨rfl, z⟩) fun _ _ z => z)
  | lst m =>
    have e1' := e1
    obtain ⟨p, ws, rfl, hp, rp⟩ := e1'
    cases k1
    obtain ⟨xs, nx, rx, tp⟩ := lst_at I (S.sub _ _ hp)
    have ne : p ≠ a := fun e => by rw [e, J.at_] at tp; cases tp
    have rc := rc_right (T := "list") hu I.kIn J (show s.TypeIs (.ref p) "list" from ⟨_, tp, rfl⟩) PySem.F.slot_list_eq hc.l hs.hs hs.hf (fun Q' q => call_meets PySem.F.slot_list_eq (show s.TypeIs (.ref p) "list" from ⟨_, tp, rfl⟩) PySem.F.entry_list_eq (PySem.F.args_list_eq_2 _ _) (list_declines p a _ _ _ _) ⟨tp, fun M => inst_sub I.kIn J hc.l, q⟩) (run (v1 := .ref p) e1 rfl)
    exact GQ.eqBool_refG ne (wpAny_mono rc (fun r t z => by obtain ⟨rfl, z⟩ := z; exact ⟨b, rfl, rfl, z⟩) fun _ _ z => z)
  | tup m =>
    have e1' := e1
    obtain ⟨p, ws, rfl, hp, rp⟩ := e1'
    cases k1
    obtain ⟨xs, rx, ⟨⟨c1, o1, t1, s1⟩, tp, rfl, n1, rfl⟩, _⟩ := I.tuple (sqt_mono S.sub hp)
    have ne : p ≠ a := fun e => by rw [e, J.at_] at tp; cases tp
    have rc := rc_right (T := "tuple") hu I.kIn J (show s.TypeIs (.ref p) "tuple" from ⟨_, tp, rfl⟩) PySem.F.slot_tuple_eq hc.t hs.hs hs.hf (fun Q' q => call_meets PySem.F.slot_tuple_eq (show s.TypeIs (.ref p) "tuple" from ⟨_, tp, rfl⟩) PySem.F.entry_tuple_eq (PySem.F.args_tuple_eq_2 _ _) (tuple_declines p a _ _ _ _) ⟨tp, fun M => inst_sub I.kIn J hc.t, q⟩) (run (v1 := .ref p) e1 rfl)
    exact GQ.eqBool_refG ne (wpAny_mono rc (fun r t z => by obtain ⟨rfl, z⟩ := z; exact ⟨b, rfl, rfl, z⟩) fun _ _ z => z)
  | _ => cases hd
/-- x in [..]: up to the first that is equal -/
inductive InsA (X : Cx) (n : Nat) (x : D) : List D → Bool → Prop
  | nil : InsA X n x [] false
  | hit {d : D} {l : List D} (h : EqA X n d x true) : InsA X n x (d :: l) true
  | miss {d : D} {l : List D} {b : Bool} (h : EqA X n d x false) (r : InsA X n x l b) : InsA X n x (d :: l) b
theorem in_step {x : D} {A : Around} {pins : List (Addr × Obj)} {σ : L2.St} {B : Base} {W0 : Hp} {μ : List Addr} {M : List MO} {v0 : V} {p : Addr} {vs : List V} {u0 : Value} {l : List D} {ys : List V} (sb : Sub X (n + 1) A) (rx : RelV v0 u0) (ex : RD X.K W0 x v0) (hp : W0 p = some (.lst vs)) (rp : RDs X.K W0 l vs) (P : Bool → Shared → Prop)
    (hP : ∀ b' W' H' t, Inv X pins σ H' t → Go B X.K W0 μ W' μ M H' → b' = b → P b' t) :
    ∀ i t, (∃ W' H', Inv X pins σ H' t ∧ Go B X.K W0 μ W' μ M H' ∧ InsA X n x (l.drop i) b) → ∃ (items : Array Value) (m : Nat), t.heap.get? p = some { cls := .type "list", data := .seq items m } ∧ items.size = l.length ∧
      ∀ h1 : i < items.size, wpAny (model X.prog X.w) A.in1 (eqBool items[i] u0) (fun r t' => (r = true → P true t') ∧ (r = false → ∃ W' H', Inv X pins σ H' t' ∧ Go B X.K W0 μ W' μ M H' ∧ InsA X n x (l.drop (i + 1)) b)) X.xe t := by
  rintro i t ⟨W1, H1, I1, g, P1⟩
  obtain ⟨xs, m, r1, tp⟩ := lst_at I1 (g.sim.sub _ _ (g.wext _ _ hp))
  have lx : xs.length = l.length := by rw [← r1.length, rp.length]
  refine ⟨xs.toArray, m, tp, by simpa using lx, fun h1 => ?_⟩
  have hi : i < xs.length := by simpa using h1
  obtain ⟨d, v, ed, rd, rv⟩ := vals_at (rp.mono g.wext) r1 hi
  rw [ed] at P1
  show wpAny _ _ (eqBool (xs.toArray[i]'(by simpa using hi)) u0) _ _ _
  rw [List.getElem_toArray]
  generalize hr : l.drop (i + 1) = r at P1 ed
  cases P1 with
  | hit h =>
    refine wpAny_mono (h A.in1 pins t σ H1 B W1 μ M _ _ _ _ sb.in1 I1 g.ok g.sim rd (ex.mono g.wext) rv rx) (fun z t2 hz => ?_) fun _ _ z => z
    obtain ⟨rfl, W2, H2, I2, g2⟩ := hz
    exact ⟨fun _ => hP true W2 H2 t2 I2 (g.trans g2) rfl, fun e => nomatch e⟩
  | miss h q =>
    refine wpAny_mono (h A.in1 pins t σ H1 B W1 μ M _ _ _ _ sb.in1 I1 g.ok g.sim rd (ex.mono g.wext) rv rx) (fun z t2 hz => ?_) fun _ _ z => z
    obtain ⟨rfl, W2, H2, I2, g2⟩ := hz
    exact ⟨(fun e => nomatch e), fun _ => ⟨W2, H2, I2, g.trans g2, q⟩⟩
/-- x in y, x not in y, y a list: neg is whether it is not in -/
def rInA (X : Cx) (n : Nat) (neg : Bool) : R2 := fun x y H Q => ∃ B W μ M d l p vs b, InsA X n d l b ∧ Ok B W μ H ∧ Sim X.K W μ M H ∧ RD X.K W d x ∧ y = .ref p ∧ W p = some (.lst vs) ∧ RDs X.K W l vs ∧ ∀ W' H', Go B X.K W μ W' μ M H' → Q (.bl (if neg = true then !b else b)) H'
theorem op_inA (hr : L2.Room (n + 1) X.A) : OpR X (compareOp .In) (rInA X n false) := by
  intro pins s σ H x y u1 u2 Q I rx ry h
  obtain ⟨B, W, μ, M, d, l, p, vs, b, hc, o, S, e1, rfl, hp, rp, q⟩ := h
  cases ry
  have P := in_step (pins := pins) (σ := σ) (B := B) (μ := μ) (M := M) (b := b) (ys := []) (A := X.A) ⟨hr, rfl⟩ rx e1 hp rp (fun b' t => EP X pins σ Q (.bool b') t) (fun b' W' H' t I' g e => ⟨.bl b, H', I', by rw [e]; rfl, q W' H' g⟩)
  refine op_in_go (N := l.length) _ P (fun t ⟨W1, H1, I1, g, P1⟩ => ?_) ⟨W, H, I, .refl o S, by rw [List.drop_zero]; exact hc⟩
  rw [List.drop_length] at P1
  cases P1
  exact ⟨.bl false, H1, I1, rfl, q W1 H1 g⟩
theorem op_notInA (hr : L2.Room (n + 1) X.A) : OpR X (compareOp .NotIn) (rInA X n true) := by
  intro pins s σ H x y u1 u2 Q I rx ry h
  obtain ⟨B, W, μ, M, d, l, p, vs, b, hc, o, S, e1, rfl, hp, rp, q⟩ := h
  cases ry
  have P := in_step (pins := pins) (σ := σ) (B := B) (μ := μ) (M := M) (b := b) (ys := []) (A := X.A) ⟨hr, rfl⟩ rx e1 hp rp (fun b' t => EP X pins σ Q (.bool (!b')) t) (fun b' W' H' t I' g e => ⟨.bl (!b), H', I', by rw [e]; rfl, q W' H' g⟩)
  refine op_notIn_go (N := l.length) _ P (fun t ⟨W1, H1, I1, g, P1⟩ => ?_) ⟨W, H, I, .refl o S, by rw [List.drop_zero]; exact hc⟩
  rw [List.drop_length] at P1
  cases P1
  exact ⟨.bl true, H1, I1, rfl, q W1 H1 g⟩
/-- x != y, by what == says within -/
def rNeA (X : Cx) (n : Nat) : R2 := fun x y H Q => ∃ B W μ M d1 d2 b, NeA X n d1 d2 b ∧ Ok B W μ H ∧ Sim X.K W μ M H ∧ RD X.K W d1 x ∧ RD X.K W d2 y ∧ ∀ W' H', Go B X.K W μ W' μ M H' → Q (.bl (!b)) H'
theorem op_neA (hr : L2.Room n X.A) : OpR X (compareOp .NotEq) (rNeA X n) := by
  intro pins s σ H x y u1 u2 Q I rx ry h
  obtain ⟨B, W, μ, M, d1, d2, b, hc, o, S, e1, e2, q⟩ := h
  show wpAny (model X.prog X.w) X.A (richCompare .NotEq u1 u2) _ X.xe s
  refine wpAny_mono (hc X.A pins s σ H B W μ M x y u1 u2 ⟨hr, rfl⟩ I o S e1 e2 rx ry) (fun r t z => ?_) fun _ _ z => z
  obtain ⟨rfl, W', H', I', g⟩ := z
  exact ⟨.bl (!b), H', I', rfl, q W' H' g⟩
end
section
variable {K : PySem.W.Frag} {W : Hp}
mutual
/-- a function object stands in it -/
def D.Has (g : Addr) : D → Prop
  | .clo _ aux => ∃ o, (g, o) ∈ aux
  | .tup l => D.HasL g l
  | .lst l => D.HasL g l
  | .scr l => D.HasL g l
  | .ins _ _ l => D.HasL g l
  | _ => False
def D.HasL (g : Addr) : List D → Prop
  | [] => False
  | d :: l => d.Has g ∨ D.HasL g l
end
mutual
theorem has_live {g : Addr} : ∀ {d : D} {v : V}, d.Has g → RD K W d v → ∃ u, W g = some u
  | .clo _ aux, _, ⟨o, hm⟩, ⟨_, h⟩ => ⟨_, h (g, o) hm⟩
  | .tup l, _, h, ⟨_, _, _, _, r⟩ => has_lives h r
  | .lst l, _, h, ⟨_, _, _, _, r⟩ => has_lives h r
  | .scr l, _, h, ⟨_, _, _, _, r⟩ => has_lives h r
  | .ins _ _ l, _, h, ⟨_, _, _, _, _, _, r⟩ => has_lives h r
theorem has_lives {g : Addr} : ∀ {l : List D} {vs : List V}, D.HasL g l → RDs K W l vs → ∃ u, W g = some u
  | d :: l, _, .inl h, ⟨_, _, _, r, _⟩ => has_live h r
  | d :: l, _, .inr h, ⟨_, _, _, _, r⟩ => has_lives h r
end
end
section
variable {B : Base} {K : PySem.W.Frag} {σ : AEnv} {M : List MO} {Φ : AV → List MO → Prop}
theorem ae_lamF {c P : Addr} {q : Str} {mk : Addr → LF} {i : Nat} {d0 : D} (mem : (c, P, q) ∈ TabList.l) (hσ : σ[i]? = some (some (.d d0))) (k : ∀ f c', ¬ d0.Has f → Φ (.d (lamD f c' (mk c'))) M) : AE B K (tLamV P mk) σ M Φ := fun W μ H τ o s e Q qq => by
  refine ⟨s.tab, fun f c' H1 hE nn T1 f0 f1 c1 => ?_⟩
  have hP : ∀ a u, H a = some u → (∀ ps, u ≠ .tbl ps) → a ≠ P := fun a u h1 h2 z => by
    subst z
    obtain ⟨ps, h3, _⟩ := s.tab _ mem
    rw [h3] at h1
    exact h2 ps (Option.some.inj h1).symm
  have wf : W f = none := by
    cases z : W f with
    | none => rfl
    | some u => rw [s.sub f u z] at f0; cases f0
  have wP : W P = none := s.tw _ mem
  have wk : ∀ a u, W a = some u → H1 a = some u := fun a u h => hE a u (s.sub a u h) fun z => by rw [z, wP] at h; cases h
  have wc : ∀ u, W c' = some u → u = LamX.CodeO c' (mk c').qual := fun u h => by
    have := wk _ _ h
    rw [c1] at this
    exact (Option.some.inj this).symm
  have live : ∀ a ∈ μ, ∃ u, H a = some u ∧ Plain u ∧ H1 a = some u := fun a ha => by
    obtain ⟨u, hu⟩ := s.live ha
    have hp := s.plain ha hu
    exact ⟨u, hu, hp, hE a u hu (hP a u hu hp.1)⟩
  have mf : ∀ a ∈ μ, a ≠ f := fun a ha z => by
    obtain ⟨u, hu, _⟩ := live a ha
    rw [z, f0] at hu; cases hu
  have mc : ∀ a ∈ μ, a ≠ c' := fun a ha z => by
    obtain ⟨u, _, hp, hu⟩ := live a ha
    rw [z, c1] at hu
    cases hu
    exact hp.2 _ rfl
  have sW : Same W (upd (upd W c' (LamX.CodeO c' (mk c').qual)) f (LamO f (mk c'))) := fun a u h => by
    rw [upd_ne (fun z => by rw [z, wf] at h; cases h)]
    by_cases z : a = c'
    · rw [z] at h ⊢; rw [upd_same, wc u h]
    · rw [upd_ne z]; exact h
  have W'a : ∀ a u, upd (upd W c' (LamX.CodeO c' (mk c').qual)) f (LamO f (mk c')) a = some u → H1 a = some u := fun a u h => by
    by_cases z : a = f
    · subst z; rw [upd_same] at h; rw [← h]; exact f1
    · rw [upd_ne z] at h
      by_cases z2 : a = c'
      · rw [z2] at h ⊢; rw [upd_same] at h; rw [← h]; exact c1
      · rw [upd_ne z2] at h; exact wk a u h
  have wcc : upd (upd W c' (LamX.CodeO c' (mk c').qual)) f (LamO f (mk c')) c' = some (LamX.CodeO c' (mk c').qual) := by
    by_cases z : c' = f
    · have : LamO f (mk c') = LamX.CodeO c' (mk c').qual := by
        have h1 := c1
        rw [show H1 c' = H1 f from by rw [z], f1] at h1
        exact Option.some.inj h1
      rw [show upd (upd W c' (LamX.CodeO c' (mk c').qual)) f (LamO f (mk c')) c' = some (LamO f (mk c')) from by rw [z]; exact upd_same, this]
    · rw [upd_ne z]; exact upd_same
  have new : ¬ d0.Has f := fun hh => by
    obtain ⟨v, _, rv⟩ := e.2 i _ hσ
    obtain ⟨u, hu⟩ := has_live hh rv
    rw [wf] at hu
    cases hu
  refine qq _ _ (upd (upd W c' (LamX.CodeO c' (mk c').qual)) f (LamO f (mk c'))) μ H1 _ (k f c' new) ⟨⟨o.wsub.trans sW, fun a u h => ?_, fun a u h hx ht => ?_, o.pre, fun a h => o.live a (nn a h)⟩, ⟨W'a, s.nd, s.len, fun a ha => ?_, fun j a mo h1 h2 => ?_, T1, fun p hp => ?_⟩, sW, ⟨[], by simp⟩⟩ ⟨rfl, fun p hp => ?_⟩
  · by_cases z : a = f
    · subst z; exact .inr (.inl (o.live _ f0))
    · rw [upd_ne z] at h
      by_cases z2 : a = c'
      · subst z2; rw [upd_same] at h; cases h; exact .inr (.inr fun z => z.2 _ rfl)
      · rw [upd_ne z2] at h; exact o.wnew a u h
  · have h1 := o.fr a u h hx ht
    exact hE a u h1 (hP a u h1 ht)
  · rw [upd_ne (mf a ha), upd_ne (mc a ha)]; exact s.out a ha
  · have ha := List.mem_of_getElem? h1
    have q := (s.ob j a mo h1 h2).mono (μ' := []) sW (H' := H1) (fun u hu => hE a u hu (hP a u hu (s.plain ha hu).1))
    rwa [List.append_nil] at q
  · obtain ⟨ps, h3, _⟩ := T1 p hp
    obtain ⟨ps0, h30, _⟩ := s.tab p hp
    rw [upd_ne (fun z => by rw [z, f0] at h30; cases h30), upd_ne (fun z => by rw [z, c1] at h3; cases h3)]
    exact s.tw p hp
  · simp only [List.mem_cons, List.not_mem_nil, or_false] at hp
    rcases hp with rfl | rfl
    · exact upd_same
    · exact wcc
theorem ar_neA {X : Cx} {n : Nat} {d1 d2 : D} {b : Bool} (hK : X.K = K) (h : NeA X n d1 d2 b) (k : Φ (.d (.bl (!b))) M) : AR B K (rNeA X n) (.d d1) (.d d2) M Φ := fun W μ H u w o s hu hw Q q => by
  subst hK
  exact ⟨B, W, μ, M, d1, d2, b, h, o, s, hu, hw, fun W' H' g => q _ _ _ _ _ _ k g rfl⟩
theorem ar_inA {X : Cx} {n : Nat} {x : D} {l : List D} {b neg : Bool} (hK : X.K = K) (h : InsA X n x l b) (k : Φ (.d (.bl (if neg = true then !b else b))) M) : AR B K (rInA X n neg) (.d x) (.d (.lst l)) M Φ := fun W μ H u w o s hu hw Q q => by
  subst hK
  obtain ⟨p, vs, rfl, hp, rp⟩ := hw
  exact ⟨B, W, μ, M, x, l, p, vs, b, h, o, s, hu, rfl, hp, rp, fun W' H' g => q _ _ _ _ _ _ k g rfl⟩
/-- a slice of a tuple -/
theorem ae_sliceT {te : TE} {tl th : TO} (h : AE B K te σ M fun x M1 => ∃ l, x = .d (.tup l) ∧ AO B K tl σ M1 fun lo M2 => AO B K th σ M2 fun hi M3 => ¬ (HT.sIx l.length 0 lo = 0 ∧ HT.sIx l.length l.length hi = l.length) ∧ Φ (.d (.tup (cutL l lo hi))) M3) : AE B K (tSl (uSl K) te tl th) σ M Φ := fun W μ H τ o s e Q q =>
  h W μ H τ o s e _ fun x M1 W1 μ1 H1 v ⟨l, e1, p⟩ f1 r1 => by
    subst e1
    refine p W1 μ1 H1 τ f1.ok f1.sim (f1.re e) _ fun lo M2 W2 μ2 H2 p2 f2 => p2 W2 μ2 H2 τ f2.ok f2.sim ((f1.trans f2).re e) _ fun hi M3 W3 μ3 H3 p3 f3 => .inr (.inl ?_)
    obtain ⟨a, vs, rfl, h1, h2⟩ := r1
    have f23 := f2.trans f3
    refine ⟨a, vs, rfl, sqt_mono f3.sim.sub (sqt_mono f23.wext h1), by rw [← h2.length]; exact p3.1, fun p hp => ?_⟩
    have g := go_new (u := .tup (cutV vs lo hi)) f3.ok f3.sim hp
    exact q _ _ _ _ _ _ p3.2 (f1.trans (f23.trans g)) ⟨p, _, rfl, .inl (.inl upd_same), (RDs.mono (f23.trans g).wext h2).cut lo hi⟩
end
section
variable {X : Cx} {CX : CXT} {k : Nat} {C : Addr} {x : Str} {ps : List Str} {asp : ASp} {E : XK}
structure NeC (K : PySem.W.Frag) (C : Addr) : Prop where
  ne : PySem.W.findIn K (.ref C) "__ne__" = some (some (.builtin "object.__ne__"))
  ob : PySem.W.mroIn K C (.type "object") = some true
theorem op_eqW {K : PySem.W.Frag} {kws : List KwE} (G : MethAt X.prog X.w K X.mg X.base CX k C "__eq__" ps asp kws) (hr : L2.Room k X.A) (hx : Passes CX X E) (hK : X.K = K := by rfl) : OpR X (compareOp .Eq) (rOwnE K C (conc K asp) E) := by
  subst hK
  obtain ⟨f, fd, F, hm, hb, _⟩ := G.ex
  exact op_eqO ⟨hm.at_, hm.fn⟩ F hb hr hx
theorem op_neW {K : PySem.W.Frag} {kws : List KwE} (N : NeC K C) (G : MethAt X.prog X.w K X.mg X.base CX k C "__eq__" ps asp kws) (hr : L2.Room (k + 1) X.A) (hx : Passes CX X E) (hK : X.K = K := by rfl) : OpR X (compareOp .NotEq) (rOwnN K C (conc K asp) E) := by
  subst hK
  obtain ⟨f, fd, F, hm, hb, _⟩ := G.ex
  exact op_neO ⟨hm.at_, hm.fn⟩ N.ne N.ob F hb hr hx
theorem k_lenW {K : PySem.W.Frag} {kws : List KwE} (G : MethAt X.prog X.w K X.mg X.base CX k C "__len__" ps asp kws) (hr : L2.Room (k + 1) X.A) (hx : Passes CX X E) (hK : X.K = K := by rfl) : CallR X (.builtin "len") (rOwnLen C (conc K asp) E) := by
  subst hK
  obtain ⟨f, fd, F, hm, hb, _⟩ := G.ex
  exact call_lenO ⟨hm.at_, hm.fn⟩ F hb hr hx
theorem k_reprW {K : PySem.W.Frag} {kws : List KwE} (G : MethAt X.prog X.w K X.mg X.base CX k C "__repr__" ps asp kws) (hr : L2.Room (k + 1) X.A) (hx : Passes CX X E) (hK : X.K = K := by rfl) : CallR X (.builtin "repr") (rOwnRepr C (conc K asp) E) := by
  subst hK
  obtain ⟨f, fd, F, hm, hb, _⟩ := G.ex
  exact call_reprO ⟨hm.at_, hm.fn⟩ F hb hr hx
/-- C(k = v, ..) by MkAt -/
theorem pe_mkK {K : PySem.W.Frag} {kws : List KwE} {kk : List Keyword} {tk : TA} {p pos : Pos} {ks : List Str} {ix : List Nat} (G : MkAt X.prog X.w K X.mg X.base CX k C x ps asp kws) (he0 : (1, ks, ix) ∈ kws) (hr : L2.Room (k + 1) X.A) (hg : Gl X x) (hx : Passes CX X E) (hkw : PK X kk tk)
    (hall : (backToKw pos (keywordEach kk X.env)).all (·.1.isSome) = true := by rfl) (hks : (backToKw pos (keywordEach kk X.env)).filterMap (·.1) = ks := by rfl) (hdb : (x == ("__debug__" : Str)) = false := by decide)
    (hpl : ((backTo pos (starEach [] X.env)).any (·.1) || (backToKw pos (keywordEach kk X.env)).any (·.1.isNone)) = false := by rfl) (hK : X.K = K := by rfl) :
    PE X (.Call (.Name x p) [] kk pos) (tMakeK C 0 ks.length (conc K asp) (fun vs zs => pick ix vs [] [] zs) E tNil tk) := by
  subst hK
  obtain ⟨f, fd, F, M, hm, hb, hw⟩ := G.ex
  exact pe_makeK0 M F hr hg hm (hw _ he0) hx hkw hall hks hdb hpl
end
end Al

/-! what the package's small defs tell -/
namespace Wd
open PySem PyProof.Rows L2 Al
variable [Al.TabList]
def top (i : Nat) : Stmt := PySem.Challenge.pw_seenstands_k02_no_webs.main.body.getD i (.Pass ⟨0, 0, 0, 0⟩)
def inClass : Stmt → Nat → Stmt
  | .ClassDef (body := b) .., i => b.getD i (.Pass ⟨0, 0, 0, 0⟩)
  | s, _ => s
theorem sc_is_whole : FnScope ["thing"] ["thing"] (defScope (top 9)) := ⟨rfl, rfl, rfl, by decide +kernel, rfl, by decide +kernel, by decide +kernel⟩
theorem sc_is_from : FnScope ["thing", "least", "most"] ["thing", "least", "most"] (defScope (top 10)) := ⟨rfl, rfl, rfl, by decide +kernel, rfl, by decide +kernel, by decide +kernel⟩
theorem sc_is_size : FnScope ["thing"] ["thing"] (defScope (top 17)) := ⟨rfl, rfl, rfl, by decide +kernel, rfl, by decide +kernel, by decide +kernel⟩
/-- things of Python's own -/
def flatD : D → Bool | .non => true | .bl _ => true | .int _ => true | .str _ => true | .tup _ => true | .lst _ => true | .scr _ => true | _ => false
def wholeB : D → Bool | .int _ => true | _ => false
def fromB (lo hi : Int) : D → Bool | .int i => decide (lo ≤ i) && decide (i ≤ hi) | _ => false
def aWhole : ASp := fun xs M Φ _ => ∃ x : D, xs = [.d x] ∧ M = [] ∧ flatD x = true ∧ Φ (.d (.bl (wholeB x))) []
theorem mono_whole : Mono aWhole := fun xs M Φ Φ' Ψ Ψ' h1 _ ⟨x, e1, e2, e3, p⟩ => ⟨x, e1, e2, e3, h1 _ _ p⟩
def aFrom : ASp := fun xs M Φ _ => ∃ (x : D) (lo hi : Int), xs = [.d x, .d (.int lo), .d (.int hi)] ∧ M = [] ∧ flatD x = true ∧ Φ (.d (.bl (fromB lo hi x))) []
theorem mono_from : Mono aFrom := fun xs M Φ Φ' Ψ Ψ' h1 _ ⟨x, lo, hi, e1, e2, e3, p⟩ => ⟨x, lo, hi, e1, e2, e3, h1 _ _ p⟩
def aSize : ASp := fun xs M Φ _ => ∃ (x : D), xs = [.d x] ∧ M = [] ∧ flatD x = true ∧ Φ (.d (.bl (fromB 1 60 x))) []
theorem mono_size : Mono aSize := fun xs M Φ Φ' Ψ Ψ' h1 _ ⟨x, e1, e2, e3, p⟩ => ⟨x, e1, e2, e3, h1 _ _ p⟩
theorem flat_ty {K : PySem.W.Frag} {x : D} (h : flatD x = true) : TyL K x := by cases x <;> first | exact True.intro | cases h
/-- a promise with nothing handed in but data -/
theorem rt_d {Φ : AV → List MO → Prop} {d : D} (h : Φ (.d d) []) : RT 0 Φ (.d d) [] := Or.inl ⟨0, .d d, Nat.le_refl _, .dat, by simp, h⟩
local macro_rules | `(tactic| walk_at "alside") => `(tactic| first
  | decide
  | (dsimp only; decide)
  | exact Or.inr (by decide)
  | exact Or.inl (by decide)
  | (dsimp only; omega)
  | (unfold CDiv; omega)
  | (unfold CPow; omega)
  | (unfold CMul; omega)
  | assumption)
local macro_rules | `(tactic| walk_at "al1") => `(tactic| first
  | with_reducible refine as_asg ?_
  | with_reducible refine as_drop ?_
  | with_reducible refine as_ret ?_
  | with_reducible refine as_if ?_
  | with_reducible refine as_next ?_
  | with_reducible refine at_test ?_
  | with_reducible refine at_b ?_
  | with_reducible refine at_and ?_
  | with_reducible refine at_or ?_
  | with_reducible refine at_not ?_
  | with_reducible refine ae_op ?_
  | with_reducible refine ae_un ?_
  | with_reducible refine ae_cb ?_
  | with_reducible refine ae_if ?_
  | with_reducible refine ae_andV ?_
  | with_reducible refine ae_orV ?_
  | with_reducible refine ae_notV ?_
  | with_reducible refine ae_chain ?_
  | with_reducible refine ae_int ?_
  | with_reducible refine ae_bl ?_
  | with_reducible refine ae_non ?_
  | with_reducible refine ae_str ?_
  | with_reducible refine ae_ty ?_
  | with_reducible refine ae_adr ?_
  | with_reducible refine aa_nil ?_
  | with_reducible refine aa_cons ?_
  | with_reducible refine ag_name ?_
  | with_reducible refine ag_sub ?_
  | with_reducible refine at_yes ?_
  | ((with_reducible show AE _ _ (tVar _) _ _ _); refine ae_var rfl ?_)
  | ((with_reducible show AR _ _ (uAdd _) _ _ _ _); refine ur_addI ?_)
  | ((with_reducible show AR _ _ (uMul _) _ _ _ _); refine ur_mulI (by walk_at "alside") ?_)
  | ((with_reducible show AR _ _ (uEq _) _ _ _ _); first | refine ur_eqI ?_ | refine ur_eqS ?_ | refine ur_eqB ?_)
  | ((with_reducible show AR _ _ (uNe _) _ _ _ _); first | refine ur_neI ?_ | refine ur_neS ?_ | refine ur_neB ?_)
  | ((with_reducible show AR _ _ (rIx _) _ _ _ _); first | refine ur_ixM rfl rfl ?_ | refine ur_ixL rfl ?_ | refine ur_ixT rfl ?_ | refine ur_ixS rfl ?_)
  | ((with_reducible show AC _ _ (uLen _) _ _ _); first | refine uc_len (.tup _) ?_ | refine uc_len (.lst _) ?_ | refine uc_len (.scr _) ?_ | refine uc_len (.mm rfl) ?_)
  | ((with_reducible show AR _ _ (rI0 _) _ _ _ _); first | with_reducible refine ar_i0 ?_ | with_reducible refine ar_b0 ?_)
  | ((with_reducible show AU _ _ (rU _) _ _ _); with_reducible refine au_i ?_)
  | ((with_reducible show AR _ _ (rI _ _) _ _ _ _); refine ar_i (by walk_at "alside") ?_)
  | ((with_reducible show AR _ _ (rIxL _) _ _ _ _); first | refine ar_ixM rfl rfl ?_ | refine ar_ixL rfl ?_ | refine ar_ixS rfl ?_)
  | ((with_reducible show AR _ _ (rIxT _) _ _ _ _); refine ar_ixT rfl ?_)
  | ((with_reducible show AR _ _ rEq _ _ _ _); first | with_reducible refine ar_eqI ?_ | with_reducible refine ar_eqS ?_ | with_reducible refine ar_eqB ?_)
  | ((with_reducible show AR _ _ rNe _ _ _ _); first | with_reducible refine ar_neI ?_ | with_reducible refine ar_neS ?_ | with_reducible refine ar_neB ?_))
local macro_rules | `(tactic| walk_at "alds") => `(tactic| first
  | refine ⟨[], rfl, Nat.le_of_ble_eq_true rfl, ?_⟩
  | refine ⟨[_], rfl, Nat.le_of_ble_eq_true rfl, ?_⟩
  | refine ⟨[_, _], rfl, Nat.le_of_ble_eq_true rfl, ?_⟩
  | refine ⟨[_, _, _], rfl, Nat.le_of_ble_eq_true rfl, ?_⟩
  | refine ⟨[_, _, _, _], rfl, Nat.le_of_ble_eq_true rfl, ?_⟩
  | refine ⟨[_, _, _, _, _], rfl, Nat.le_of_ble_eq_true rfl, ?_⟩
  | refine ⟨[_, _, _, _, _, _], rfl, Nat.le_of_ble_eq_true rfl, ?_⟩
  | refine ⟨[_, _, _, _, _, _, _], rfl, Nat.le_of_ble_eq_true rfl, ?_⟩
  | refine ⟨[_, _, _, _, _, _, _, _], rfl, Nat.le_of_ble_eq_true rfl, ?_⟩
  | refine ⟨[_, _, _, _, _, _, _, _, _], rfl, Nat.le_of_ble_eq_true rfl, ?_⟩
  | refine ⟨[_, _, _, _, _, _, _, _, _, _], rfl, Nat.le_of_ble_eq_true rfl, ?_⟩
  | refine ⟨[_, _, _, _, _, _, _, _, _, _, _], rfl, Nat.le_of_ble_eq_true rfl, ?_⟩
  | refine ⟨[_, _, _, _, _, _, _, _, _, _, _, _], rfl, Nat.le_of_ble_eq_true rfl, ?_⟩)
local macro_rules | `(tactic| walk_at "alc") => `(tactic| refine ae_call0 (Ψ := fun _ _ => False) (by walk_at "almono") efits_none ?_)
local macro_rules | `(tactic| walk_at "al") => `(tactic| repeat (first | walk_at "al1" | with_reducible refine as_seq ?_ | with_reducible refine ae_tup ?_ | with_reducible walk_at "alc" | refine ⟨_, rfl, ?_⟩ | walk_at "alds" | refine ⟨_, _, _, _, _, rfl, rfl, rfl, rfl, rfl, ?_⟩))
local macro_rules | `(tactic| walk_at "alF") => `(tactic| repeat (first | walk_at "al1" | with_reducible refine as_seq ?_ | with_reducible refine ae_tup ?_ | with_reducible refine ae_lst ?_ | with_reducible walk_at "alc" | refine ⟨_, rfl, ?_⟩ | walk_at "alds" | refine ⟨_, _, _, _, _, rfl, rfl, rfl, rfl, rfl, ?_⟩))
local macro_rules | `(tactic| walk_at "alo") => `(tactic| repeat (first | walk_at "al1" | with_reducible refine ae_tup ?_ | with_reducible walk_at "alc" | refine ⟨_, rfl, ?_⟩ | walk_at "alds" | refine ⟨_, _, _, _, _, rfl, rfl, rfl, rfl, rfl, ?_⟩))
local macro_rules | `(tactic| walk_at "almono") => `(tactic| first | exact mono_whole | exact mono_from | exact mono_size)
section
variable {P : Program} {w : World} {K : PySem.W.Frag} {mg : Str → Option Value} {base : Heap}
theorem ok_whole (D : DefAt K mg "is_whole" (top 9) ["thing"]) (T : Bt mg) : FnAt P w K mg base CX0 1 "is_whole" ["thing"] aWhole := by
  refine fnat D sc_is_whole (fun xs M Φ Ψ h => ?_) (fun f cdv A outer s H E hr => ⟨_, (pss_one (ps_ret (pe_and (pe_callB (k_isi K) (by rfl) T.isinstance (by decide +kernel) (pa_cons (pv 0) (pa_cons (pe_bltn (v := .ty "int") (by rfl) T.int (by decide +kernel) rfl) pa_nil))) (pe_one (pe_not (pe_callB (k_isi K) (by rfl) T.isinstance (by decide +kernel) (pa_cons (pv 0) (pa_cons (pe_bltn (v := .ty "bool") (by rfl) T.bool (by decide +kernel) rfl) pa_nil)))))))), fun B xs M Φ Ψ hB h => ?_⟩)
  · obtain ⟨x, rfl, _⟩ := h
    rfl
  · obtain ⟨x, rfl, rfl, hx, p⟩ := h
    walk_at "al"
    cases x with
    | non =>
      refine uc_isiB True.intro (b := false) (kit_ty (by decide +kernel)) ⟨_, rfl, (fun z => nomatch z), fun _ => ?_⟩
      exact rt_d p
    | bl b =>
      refine uc_isiB True.intro (b := true) (kit_ty (by decide +kernel)) ⟨_, rfl, fun _ => ?_, (fun z => nomatch z)⟩
      walk_at "al"
      refine uc_isiB True.intro (b := true) (kit_ty (by decide +kernel)) ⟨_, rfl, ?_⟩
      exact rt_d p
    | int i =>
      refine uc_isiB True.intro (b := true) (kit_ty (by decide +kernel)) ⟨_, rfl, fun _ => ?_, (fun z => nomatch z)⟩
      walk_at "al"
      refine uc_isiB True.intro (b := false) (kit_ty (by decide +kernel)) ⟨_, rfl, ?_⟩
      exact rt_d p
    | str i =>
      refine uc_isiB True.intro (b := false) (kit_ty (by decide +kernel)) ⟨_, rfl, (fun z => nomatch z), fun _ => ?_⟩
      exact rt_d p
    | tup i =>
      refine uc_isiB True.intro (b := false) (kit_ty (by decide +kernel)) ⟨_, rfl, (fun z => nomatch z), fun _ => ?_⟩
      exact rt_d p
    | lst i =>
      refine uc_isiB True.intro (b := false) (kit_ty (by decide +kernel)) ⟨_, rfl, (fun z => nomatch z), fun _ => ?_⟩
      exact rt_d p
    | scr i =>
      refine uc_isiB True.intro (b := false) (kit_ty (by decide +kernel)) ⟨_, rfl, (fun z => nomatch z), fun _ => ?_⟩
      exact rt_d p
    | _ => cases hx
theorem ok_from (D : DefAt K mg "is_from" (top 10) ["thing", "least", "most"]) (G_is_whole : FnAt P w K mg base CX0 1 "is_whole" ["thing"] aWhole) : FnAt P w K mg base CX0 2 "is_from" ["thing", "least", "most"] aFrom := by
  refine fnat D sc_is_from (fun xs M Φ Ψ h => ?_) (fun f cdv A outer s H E hr => ⟨_, (pss_one (ps_ret (pe_and (pe_fn G_is_whole (hr.mono (by decide)) rfl pass0 (pa_cons (pv 0) pa_nil)) (pe_one (pe_chain op_le op_le (pv 1) (pv 0) (pv 2)))))), fun B xs M Φ Ψ hB h => ?_⟩)
  · obtain ⟨x, lo, hi, rfl, _⟩ := h
    rfl
  · obtain ⟨x, lo, hi, rfl, rfl, hx, p⟩ := h
    walk_at "al"
    refine sent0 (ys := [x]) mono_whole ?_
    refine ⟨x, rfl, rfl, hx, rfl, _, rfl, _, rfl, fun hw => ?_, fun hw => ?_⟩
    · cases x with
      | int i =>
        walk_at "al"
        refine ⟨fun h1 => ?_, fun h1 => ?_⟩
        · walk_at "al"
          have : fromB lo hi (.int i) = decide (i ≤ hi) := by show (decide (lo ≤ i) && _) = _; rw [h1]; rfl
          rw [this] at p
          exact rt_d p
        · have : fromB lo hi (.int i) = false := by show (decide (lo ≤ i) && _) = _; rw [h1]; rfl
          rw [this] at p
          exact rt_d p
      | _ => cases hw
    · have : fromB lo hi x = false := by cases x <;> first | rfl | cases hw
      rw [this] at p
      exact rt_d p
theorem ok_size (D : DefAt K mg "is_size" (top 17) ["thing"]) (G_is_from : FnAt P w K mg base CX0 2 "is_from" ["thing", "least", "most"] aFrom) {t : Tok} (g_MOST_SIZE : mg "MOST_SIZE" = some (.int 60 t)) : FnAt P w K mg base CX0 3 "is_size" ["thing"] aSize := by
  refine fnat D sc_is_size (fun xs M Φ Ψ h => ?_) (fun f cdv A outer s H E hr => ⟨_, (pss_one (ps_ret (pe_fn G_is_from (hr.mono (by decide)) rfl pass0 (pa_cons (pv 0) (pa_cons pe_int (pa_cons (pe_glob (v := .int 60) rfl g_MOST_SIZE ⟨_, rfl⟩) pa_nil)))))), fun B xs M Φ Ψ hB h => ?_⟩)
  · obtain ⟨x, rfl, _⟩ := h
    rfl
  · obtain ⟨x, rfl, rfl, hx, p⟩ := h
    walk_at "al"
    refine sent0 (ys := [x, .int 1, .int 60]) mono_from ?_
    exact ⟨x, 1, 60, rfl, rfl, hx, rfl, _, rfl, rt_d p⟩
end
end Wd

namespace Wd
open PySem PyProof.Rows L2 Al
variable [Al.TabList]
theorem sc_are_hears : FnScope ["thing", "many", "room"] ["thing", "many"] (defScope (top 18)) := ⟨rfl, rfl, rfl, by decide +kernel, rfl, by decide +kernel, by decide +kernel⟩
theorem sc_rows_heard : FnScope ["rooms", "hears", "found", "room"] ["rooms", "hears"] (defScope (top 19)) := ⟨rfl, rfl, rfl, by decide +kernel, rfl, by decide +kernel, by decide +kernel⟩
def toI : D → Int | .int i => i | _ => 0
def hearsB (many : Int) : D → Bool
  | .tup l => decide (l.length ≤ 3) && (l.all (fromB 0 (many - 1)) && decide (l.map toI).Nodup)
  | _ => false
def flats : D → Bool | .tup l => l.all flatD | d => flatD d
def aHears : ASp := fun xs M Φ _ => ∃ (x : D) (many : Int), xs = [.d x, .d (.int many)] ∧ M = [] ∧ flats x = true ∧ Φ (.d (.bl (hearsB many x))) []
theorem mono_hears : Mono aHears := fun xs M Φ Φ' Ψ Ψ' h1 _ ⟨x, n, e1, e2, e3, p⟩ => ⟨x, n, e1, e2, e3, h1 _ _ p⟩
theorem flats_flat {x : D} (h : flats x = true) : flatD x = true := by cases x <;> first | rfl | exact h
theorem ints_of {n : Int} : ∀ {l : List D}, l.all (fromB 0 n) = true → l = (l.map toI).map D.int
  | [], _ => rfl
  | d :: l, h => by
    rw [List.all_cons, Bool.and_eq_true] at h
    have ih := ints_of h.2
    cases d with
    | int i => rw [List.map_cons, List.map_cons, ← ih]; rfl
    | _ => exact absurd h.1 Bool.false_ne_true
theorem len_le {out : List Int} : ∀ {ns : List Int}, out.Nodup → (∀ k ∈ out, k ∈ ns) → out.length ≤ ns.length := by
  induction out with
  | nil => intro ns _ _; exact Nat.zero_le _
  | cons a o ih =>
    intro ns nd hs
    obtain ⟨ha, ho⟩ := List.nodup_cons.mp nd
    have hm := hs a List.mem_cons_self
    have := ih (ns := ns.erase a) ho fun k hk => (List.mem_erase_of_ne (fun (e : k = a) => ha (e ▸ hk))).mpr (hs k (List.mem_cons_of_mem _ hk))
    rw [List.length_erase_of_mem hm] at this
    have hp := List.length_pos_of_mem hm
    rw [List.length_cons]
    omega
theorem nd_len {out : List Int} : ∀ {ns : List Int}, out.Nodup → (∀ k ∈ out, k ∈ ns) → out.length = ns.length → ns.Nodup := by
  induction out with
  | nil => intro ns _ _ h; rw [List.eq_nil_of_length_eq_zero h.symm]; exact List.nodup_nil
  | cons a o ih =>
    intro ns nd hs hl
    obtain ⟨ha, ho⟩ := List.nodup_cons.mp nd
    have hm := hs a List.mem_cons_self
    have hp := List.length_pos_of_mem hm
    have hsub : ∀ k ∈ o, k ∈ ns.erase a := fun k hk => (List.mem_erase_of_ne (fun (e : k = a) => ha (e ▸ hk))).mpr (hs k (List.mem_cons_of_mem _ hk))
    have he := List.length_erase_of_mem hm
    rw [List.length_cons] at hl
    have h1 := ih (ns := ns.erase a) ho hsub (by rw [he]; omega)
    refine (List.perm_cons_erase hm).nodup_iff.mpr (List.nodup_cons.mpr ⟨fun h2 => ?_, h1⟩)
    have h3 := len_le (ns := (ns.erase a).erase a) ho fun k hk => (List.mem_erase_of_ne (fun (e : k = a) => ha (e ▸ hk))).mpr (hsub k hk)
    rw [List.length_erase_of_mem h2, he] at h3
    have h4 := List.length_pos_of_mem h2
    rw [he] at h4
    omega
theorem nodup_len {ns out : List Int} (nd : out.Nodup) (hm : ∀ k, k ∈ out ↔ k ∈ ns) : decide (((out.length : Nat) : Int) = (ns.length : Int)) = decide ns.Nodup := by
  by_cases h : ns.Nodup
  · have e : out.length = ns.length := Nat.le_antisymm (len_le nd fun k hk => (hm k).mp hk) (len_le h fun k hk => (hm k).mpr hk)
    rw [decide_eq_true h, decide_eq_true (by rw [e])]
  · rw [decide_eq_false h, decide_eq_false]
    intro e
    exact h (nd_len nd (fun k hk => (hm k).mp hk) (by omega))
def tupB : D → Bool | .tup _ => true | _ => false
theorem tup_ty {K : PySem.W.Frag} {x : D} (h : flatD x = true) : PySem.W.kitOne K (tyD x) (.type "tuple") = some (tupB x) := by
  cases x with
  | non => exact kit_ty (show kitB "NoneType" "tuple" = some false from by decide +kernel)
  | bl b => exact kit_ty (show kitB "bool" "tuple" = some false from by decide +kernel)
  | int i => exact kit_ty (show kitB "int" "tuple" = some false from by decide +kernel)
  | str y => exact kit_ty (show kitB "str" "tuple" = some false from by decide +kernel)
  | tup l => exact kit_ty (show kitB "tuple" "tuple" = some true from by decide +kernel)
  | lst l => exact kit_ty (show kitB "list" "tuple" = some false from by decide +kernel)
  | scr l => exact kit_ty (show kitB "list" "tuple" = some false from by decide +kernel)
  | _ => cases h
local macro_rules | `(tactic| walk_at "alside") => `(tactic| first
  | decide
  | (dsimp only; decide)
  | exact Or.inr (by decide)
  | exact Or.inl (by decide)
  | (dsimp only; omega)
  | (unfold CDiv; omega)
  | (unfold CPow; omega)
  | (unfold CMul; omega)
  | assumption)
local macro_rules | `(tactic| walk_at "al1") => `(tactic| first
  | with_reducible refine as_asg ?_
  | with_reducible refine as_drop ?_
  | with_reducible refine as_ret ?_
  | with_reducible refine as_if ?_
  | with_reducible refine as_next ?_
  | with_reducible refine at_test ?_
  | with_reducible refine at_b ?_
  | with_reducible refine at_and ?_
  | with_reducible refine at_or ?_
  | with_reducible refine at_not ?_
  | with_reducible refine ae_op ?_
  | with_reducible refine ae_un ?_
  | with_reducible refine ae_cb ?_
  | with_reducible refine ae_if ?_
  | with_reducible refine ae_andV ?_
  | with_reducible refine ae_orV ?_
  | with_reducible refine ae_notV ?_
  | with_reducible refine ae_chain ?_
  | with_reducible refine ae_int ?_
  | with_reducible refine ae_bl ?_
  | with_reducible refine ae_non ?_
  | with_reducible refine ae_str ?_
  | with_reducible refine ae_ty ?_
  | with_reducible refine ae_adr ?_
  | with_reducible refine aa_nil ?_
  | with_reducible refine aa_cons ?_
  | with_reducible refine ag_name ?_
  | with_reducible refine ag_sub ?_
  | with_reducible refine at_yes ?_
  | ((with_reducible show AE _ _ (tVar _) _ _ _); refine ae_var rfl ?_)
  | ((with_reducible show AR _ _ (uAdd _) _ _ _ _); refine ur_addI ?_)
  | ((with_reducible show AR _ _ (uMul _) _ _ _ _); refine ur_mulI (by walk_at "alside") ?_)
  | ((with_reducible show AR _ _ (uEq _) _ _ _ _); first | refine ur_eqI ?_ | refine ur_eqS ?_ | refine ur_eqB ?_)
  | ((with_reducible show AR _ _ (uNe _) _ _ _ _); first | refine ur_neI ?_ | refine ur_neS ?_ | refine ur_neB ?_)
  | ((with_reducible show AR _ _ (rIx _) _ _ _ _); first | refine ur_ixM rfl rfl ?_ | refine ur_ixL rfl ?_ | refine ur_ixT rfl ?_ | refine ur_ixS rfl ?_)
  | ((with_reducible show AC _ _ (uLen _) _ _ _); first | refine uc_len (.tup _) ?_ | refine uc_len (.lst _) ?_ | refine uc_len (.scr _) ?_ | refine uc_len (.mm rfl) ?_)
  | ((with_reducible show AR _ _ (rI0 _) _ _ _ _); first | with_reducible refine ar_i0 ?_ | with_reducible refine ar_b0 ?_)
  | ((with_reducible show AU _ _ (rU _) _ _ _); with_reducible refine au_i ?_)
  | ((with_reducible show AR _ _ (rI _ _) _ _ _ _); refine ar_i (by walk_at "alside") ?_)
  | ((with_reducible show AR _ _ (rIxL _) _ _ _ _); first | refine ar_ixM rfl rfl ?_ | refine ar_ixL rfl ?_ | refine ar_ixS rfl ?_)
  | ((with_reducible show AR _ _ (rIxT _) _ _ _ _); refine ar_ixT rfl ?_)
  | ((with_reducible show AR _ _ rEq _ _ _ _); first | with_reducible refine ar_eqI ?_ | with_reducible refine ar_eqS ?_ | with_reducible refine ar_eqB ?_)
  | ((with_reducible show AR _ _ rNe _ _ _ _); first | with_reducible refine ar_neI ?_ | with_reducible refine ar_neS ?_ | with_reducible refine ar_neB ?_))
local macro_rules | `(tactic| walk_at "alds") => `(tactic| first
  | refine ⟨[], rfl, Nat.le_of_ble_eq_true rfl, ?_⟩
  | refine ⟨[_], rfl, Nat.le_of_ble_eq_true rfl, ?_⟩
  | refine ⟨[_, _], rfl, Nat.le_of_ble_eq_true rfl, ?_⟩
  | refine ⟨[_, _, _], rfl, Nat.le_of_ble_eq_true rfl, ?_⟩
  | refine ⟨[_, _, _, _], rfl, Nat.le_of_ble_eq_true rfl, ?_⟩
  | refine ⟨[_, _, _, _, _], rfl, Nat.le_of_ble_eq_true rfl, ?_⟩
  | refine ⟨[_, _, _, _, _, _], rfl, Nat.le_of_ble_eq_true rfl, ?_⟩
  | refine ⟨[_, _, _, _, _, _, _], rfl, Nat.le_of_ble_eq_true rfl, ?_⟩
  | refine ⟨[_, _, _, _, _, _, _, _], rfl, Nat.le_of_ble_eq_true rfl, ?_⟩
  | refine ⟨[_, _, _, _, _, _, _, _, _], rfl, Nat.le_of_ble_eq_true rfl, ?_⟩
  | refine ⟨[_, _, _, _, _, _, _, _, _, _], rfl, Nat.le_of_ble_eq_true rfl, ?_⟩
  | refine ⟨[_, _, _, _, _, _, _, _, _, _, _], rfl, Nat.le_of_ble_eq_true rfl, ?_⟩
  | refine ⟨[_, _, _, _, _, _, _, _, _, _, _, _], rfl, Nat.le_of_ble_eq_true rfl, ?_⟩)
local macro_rules | `(tactic| walk_at "alc") => `(tactic| refine ae_call0 (Ψ := fun _ _ => False) (by walk_at "almono") efits_none ?_)
local macro_rules | `(tactic| walk_at "al") => `(tactic| repeat (first | walk_at "al1" | with_reducible refine as_seq ?_ | with_reducible refine ae_tup ?_ | with_reducible walk_at "alc" | refine ⟨_, rfl, ?_⟩ | walk_at "alds" | refine ⟨_, _, _, _, _, rfl, rfl, rfl, rfl, rfl, ?_⟩))
local macro_rules | `(tactic| walk_at "alF") => `(tactic| repeat (first | walk_at "al1" | with_reducible refine as_seq ?_ | with_reducible refine ae_tup ?_ | with_reducible refine ae_lst ?_ | with_reducible walk_at "alc" | refine ⟨_, rfl, ?_⟩ | walk_at "alds" | refine ⟨_, _, _, _, _, rfl, rfl, rfl, rfl, rfl, ?_⟩))
local macro_rules | `(tactic| walk_at "alo") => `(tactic| repeat (first | walk_at "al1" | with_reducible refine ae_tup ?_ | with_reducible walk_at "alc" | refine ⟨_, rfl, ?_⟩ | walk_at "alds" | refine ⟨_, _, _, _, _, rfl, rfl, rfl, rfl, rfl, ?_⟩))
local macro_rules | `(tactic| walk_at "almono") => `(tactic| first | exact mono_whole | exact mono_from | exact mono_size | exact mono_hears)
section
variable {P : Program} {w : World} {K : PySem.W.Frag} {mg : Str → Option Value} {base : Heap}
theorem ok_hears (D : DefAt K mg "are_hears" (top 18) ["thing", "many"]) (T : Bt mg) (G_is_from : FnAt P w K mg base CX0 2 "is_from" ["thing", "least", "most"] aFrom) {t : Tok} (g_MOST_HEARD : mg "MOST_HEARD" = some (.int 3 t)) :
    FnAt P w K mg base CX0 3 "are_hears" ["thing", "many"] aHears := by
  refine fnat D sc_are_hears (fun xs M Φ Ψ h => ?_) (fun f cdv A outer s H E hr => ⟨_, (pss_cons (ps_if (PW.pt (pw_or (pt_not (pt_val (pe_callB (k_isi K) (by rfl) T.isinstance (by decide +kernel) (pa_cons (pv 0) (pa_cons (pe_bltn (v := .ty "tuple") (by rfl) T.tuple (by decide +kernel) rfl) pa_nil))))) (pw_or1 (pt_cmpR op_gt (pe_callB (k_len K) (by rfl) T.len (by decide +kernel) (pa_cons (pv 0) pa_nil)) (pe_glob (v := .int 3) rfl g_MOST_HEARD ⟨_, rfl⟩) (nomark _))))) (pss_one (ps_ret pe_bl)) pss_nil) (pss_cons (ps_if (pt_not (pt_val (pe_callB (k_all K rfl) (by rfl) T.all (by decide +kernel) (pa_cons (pe_lc (own := [("room", 2)]) rfl sc_are_hears.nd (pi_seqK K (pv 0)) (blkOk_by (own := [("room", 2)]) (N := ["thing", "many", "room"]) (sc := defScope (top 18)) (by decide +kernel)) (fun _ _ _ _ _ => by exact (pg_name (i := 2) sc_are_hears.nd rfl (Or.inl rfl))) (fun _ _ _ _ _ => by exact pts_nil) (fun _ _ _ _ _ => by exact (pe_fn G_is_from (hr.mono (by decide)) rfl pass0 (pa_cons (pv 2) (pa_cons pe_int (pa_cons (pe_op op_sub (pv 1) pe_int) pa_nil)))))) pa_nil)))) (pss_one (ps_ret pe_bl)) pss_nil) (pss_one (ps_ret (pe_cmpR (k_eq K hr.units) (pe_lenSetT rfl T.len rfl T.set (pv 0)) (pe_callB (k_len K) (by rfl) T.len (by decide +kernel) (pa_cons (pv 0) pa_nil)) (nomark _)))))), fun B xs M Φ Ψ hB h => ?_⟩)
  · obtain ⟨x, n, rfl, _⟩ := h
    rfl
  · obtain ⟨x, many, rfl, rfl, hx, p⟩ := h
    walk_at "al"
    refine uc_isiB (flat_ty (flats_flat hx)) (tup_ty (flats_flat hx)) ⟨_, rfl, fun hb => ?_, fun hb => ?_⟩
    · -- no tuple
      refine ⟨fun _ => ?_, (fun z => nomatch z)⟩
      walk_at "al"
      have e : hearsB many x = false := by cases x <;> first | rfl | exact absurd hb (by simp [tupB])
      rw [e] at p
      exact rt_d p
    · cases x with
      | tup l =>
        walk_at "al"
        refine ⟨fun h3 => ?_, fun h3 => ?_⟩
        · walk_at "al"
          have h3 : 3 < (l.length : Int) := of_decide_eq_true h3
          have e : hearsB many (.tup l) = false := by show (decide (l.length ≤ 3) && _) = false; rw [decide_eq_false (by omega)]; rfl
          rw [e] at p
          exact rt_d p
        · have h3 : ¬ (3 < (l.length : Int)) := of_decide_eq_false h3
          walk_at "al"
          refine ae_map (l := l) (fun d => .bl (fromB 0 (many - 1) d)) rfl (gk_name rfl) (by rw [sizeLine_eq]; omega) (ai_seqT (ae_var rfl ⟨l, rfl, rfl, rfl, ?_⟩)) fun d hd acc => ?_
          · walk_at "al"
            refine uc_allP _ (.lst _) ⟨_, rfl, iteB (fun ha => ?_) fun ha => ?_⟩
            · walk_at "al"
              have e : hearsB many (.tup l) = false := by
                show (_ && (l.all _ && _)) = false
                rw [show l.all (fromB 0 (many - 1)) = false from by simpa using ha, Bool.false_and, Bool.and_false]
              rw [e] at p
              exact rt_d p
            · have ha : l.all (fromB 0 (many - 1)) = true := by simpa using ha
              have el := ints_of ha
              walk_at "al"
              refine ae_lenSetT (ae_var rfl ⟨l.map toI, by rw [← el], by rw [List.length_map]; omega, fun out nd hm => ?_⟩)
              walk_at "al"
              have e : hearsB many (.tup l) = decide (((out.length : Nat) : Int) = (l.length : Int)) := by
                show (decide (l.length ≤ 3) && (l.all _ && _)) = _
                rw [decide_eq_true (show l.length ≤ 3 by omega), ha, Bool.true_and, Bool.true_and]
                have := nodup_len nd hm
                rw [List.length_map] at this
                exact this.symm
              rw [e] at p
              exact rt_d p
          · walk_at "al"
            refine sent0 (ys := [d, .int 0, .int (many - 1)]) mono_from ?_
            exact ⟨d, 0, many - 1, rfl, rfl, List.all_eq_true.mp hx d hd, rfl, _, rfl, rfl, rfl⟩
      | _ => exact absurd hb (by simp [tupB])
end
end Wd

namespace Wd
open PySem PyProof.Rows L2 Al
variable [Al.TabList]
theorem sc_is_rule : FnScope ["rooms", "at", "own", "rows", "stand"] ["rooms", "at"] (defScope (top 20)) := ⟨rfl, rfl, rfl, by decide +kernel, rfl, by decide +kernel, by decide +kernel⟩
theorem sc_fault_of : FnScope ["rooms", "at", "own"] ["rooms", "at"] (defScope (top 21)) := ⟨rfl, rfl, rfl, by decide +kernel, rfl, by decide +kernel, by decide +kernel⟩
/-- a room, as it was handed in -/
structure Rd where
  h : D
  s : D
  f : D
  r : D
abbrev nms : List Str := ["hears", "size", "first", "rule"]
def Rd.d (C : Addr) (x : Rd) : D := .ins C nms [x.h, x.s, x.f, x.r]
/-- a rule that may be handed in: flat data, or a lambda -/
def RuleD (d : D) : Prop := flats d = true ∨ ∃ f c F, d = lamD f c F
theorem RuleD.ty {K : PySem.W.Frag} {d : D} (h : RuleD d) : TyL K d := by
  rcases h with h | ⟨f, c, F, rfl⟩
  · exact flat_ty (flats_flat h)
  · exact tyl_lam
theorem RuleD.kit {K : PySem.W.Frag} {d : D} (h : RuleD d) : PySem.W.kitOne K (tyD d) (.type "tuple") = some (tupB d) := by
  rcases h with h | ⟨f, c, F, rfl⟩
  · exact tup_ty (flats_flat h)
  · exact kit_ty (show kitB "function" "tuple" = some false by decide +kernel)
theorem RuleD.tup {l : List D} (h : RuleD (.tup l)) : flats (.tup l) = true := by
  rcases h with h | ⟨f, c, F, e⟩
  · exact h
  · cases e
structure Rd.Fine (x : Rd) : Prop where
  h : flats x.h = true
  s : flatD x.s = true
  f : flatD x.f = true
  r : RuleD x.r
/-- what is asked of the class Room -/
structure RoomC (K : PySem.W.Frag) (C : Addr) : Prop where
  cl : Cls K C
  hears : NoAttr K C "hears"
  size : NoAttr K C "size"
  first : NoAttr K C "first"
  rule : NoAttr K C "rule"
def rowsD (rs : List Rd) : List D → Int → Option Int
  | [], a => some a
  | e :: es, a => match rs[(toI e).toNat]? with
    | some x => if fromB 1 60 x.s = true then rowsD rs es (a * toI x.s) else none
    | none => none
def optI : Option Int → D | some i => .int i | none => .non
def aRows (C : Addr) : ASp := fun xs M Φ _ => ∃ (rs : List Rd) (l : List D), xs = [.d (.tup (rs.map (Rd.d C))), .d (.tup l)] ∧ M = [] ∧ (∀ x ∈ rs, x.Fine) ∧ l.length ≤ 3 ∧ l.all (fromB 0 ((rs.length : Int) - 1)) = true ∧ Φ (.d (optI (rowsD rs l 1))) []
theorem mono_rows {C : Addr} : Mono (aRows C) := fun xs M Φ Φ' Ψ Ψ' h1 _ ⟨rs, l, e1, e2, e3, e4, e5, p⟩ => ⟨rs, l, e1, e2, e3, e4, e5, h1 _ _ p⟩
theorem room_at {C : Addr} {rs : List Rd} {k : Nat} {x : Rd} (h : rs[k]? = some x) : atI (rs.map (Rd.d C)) (k : Int) = some (x.d C) := atI_natD (by rw [List.getElem?_map, h]; rfl)
theorem size_in {d : D} (h : fromB 1 60 d = true) : ∃ i, d = .int i ∧ 1 ≤ i ∧ i ≤ 60 := by
  cases d with
  | int i =>
    have h : (decide (1 ≤ i) && decide (i ≤ 60)) = true := h
    rw [Bool.and_eq_true] at h
    exact ⟨i, rfl, of_decide_eq_true h.1, of_decide_eq_true h.2⟩
  | _ => cases h
theorem ear_in {n : Int} {d : D} (h : fromB 0 n d = true) : ∃ i : Nat, d = .int i ∧ (i : Int) ≤ n := by
  cases d with
  | int i =>
    have h : (decide (0 ≤ i) && decide (i ≤ n)) = true := h
    rw [Bool.and_eq_true] at h
    have h0 := of_decide_eq_true h.1
    have h1 := of_decide_eq_true h.2
    exact ⟨i.toNat, by rw [Int.toNat_of_nonneg h0], by omega⟩
  | _ => cases h
local macro_rules | `(tactic| walk_at "alside") => `(tactic| first
  | decide
  | (dsimp only; decide)
  | exact Or.inr (by decide)
  | exact Or.inl (by decide)
  | (dsimp only; omega)
  | (unfold CDiv; omega)
  | (unfold CPow; omega)
  | (unfold CMul; omega)
  | assumption)
local macro_rules | `(tactic| walk_at "al1") => `(tactic| first
  | with_reducible refine as_asg ?_
  | with_reducible refine as_drop ?_
  | with_reducible refine as_ret ?_
  | with_reducible refine as_if ?_
  | with_reducible refine as_next ?_
  | with_reducible refine at_test ?_
  | with_reducible refine at_b ?_
  | with_reducible refine at_and ?_
  | with_reducible refine at_or ?_
  | with_reducible refine at_not ?_
  | with_reducible refine ae_op ?_
  | with_reducible refine ae_un ?_
  | with_reducible refine ae_cb ?_
  | with_reducible refine ae_if ?_
  | with_reducible refine ae_andV ?_
  | with_reducible refine ae_orV ?_
  | with_reducible refine ae_notV ?_
  | with_reducible refine ae_chain ?_
  | with_reducible refine ae_int ?_
  | with_reducible refine ae_bl ?_
  | with_reducible refine ae_non ?_
  | with_reducible refine ae_str ?_
  | with_reducible refine ae_ty ?_
  | with_reducible refine ae_adr ?_
  | with_reducible refine aa_nil ?_
  | with_reducible refine aa_cons ?_
  | with_reducible refine ag_name ?_
  | with_reducible refine ag_sub ?_
  | with_reducible refine at_yes ?_
  | ((with_reducible show AE _ _ (tVar _) _ _ _); refine ae_var rfl ?_)
  | ((with_reducible show AR _ _ (uAdd _) _ _ _ _); refine ur_addI ?_)
  | ((with_reducible show AR _ _ (uMul _) _ _ _ _); refine ur_mulI (by walk_at "alside") ?_)
  | ((with_reducible show AR _ _ (uEq _) _ _ _ _); first | refine ur_eqI ?_ | refine ur_eqS ?_ | refine ur_eqB ?_)
  | ((with_reducible show AR _ _ (uNe _) _ _ _ _); first | refine ur_neI ?_ | refine ur_neS ?_ | refine ur_neB ?_)
  | ((with_reducible show AR _ _ (rIx _) _ _ _ _); first | refine ur_ixM rfl rfl ?_ | refine ur_ixL rfl ?_ | refine ur_ixT rfl ?_ | refine ur_ixS rfl ?_)
  | ((with_reducible show AC _ _ (uLen _) _ _ _); first | refine uc_len (.tup _) ?_ | refine uc_len (.lst _) ?_ | refine uc_len (.scr _) ?_ | refine uc_len (.mm rfl) ?_)
  | ((with_reducible show AR _ _ (rI0 _) _ _ _ _); first | with_reducible refine ar_i0 ?_ | with_reducible refine ar_b0 ?_)
  | ((with_reducible show AU _ _ (rU _) _ _ _); with_reducible refine au_i ?_)
  | ((with_reducible show AR _ _ (rI _ _) _ _ _ _); refine ar_i (by walk_at "alside") ?_)
  | ((with_reducible show AR _ _ (rIxL _) _ _ _ _); first | refine ar_ixM rfl rfl ?_ | refine ar_ixL rfl ?_ | refine ar_ixS rfl ?_)
  | ((with_reducible show AR _ _ (rIxT _) _ _ _ _); refine ar_ixT rfl ?_)
  | ((with_reducible show AR _ _ rEq _ _ _ _); first | with_reducible refine ar_eqI ?_ | with_reducible refine ar_eqS ?_ | with_reducible refine ar_eqB ?_)
  | ((with_reducible show AR _ _ rNe _ _ _ _); first | with_reducible refine ar_neI ?_ | with_reducible refine ar_neS ?_ | with_reducible refine ar_neB ?_))
local macro_rules | `(tactic| walk_at "alds") => `(tactic| first
  | refine ⟨[], rfl, Nat.le_of_ble_eq_true rfl, ?_⟩
  | refine ⟨[_], rfl, Nat.le_of_ble_eq_true rfl, ?_⟩
  | refine ⟨[_, _], rfl, Nat.le_of_ble_eq_true rfl, ?_⟩
  | refine ⟨[_, _, _], rfl, Nat.le_of_ble_eq_true rfl, ?_⟩
  | refine ⟨[_, _, _, _], rfl, Nat.le_of_ble_eq_true rfl, ?_⟩
  | refine ⟨[_, _, _, _, _], rfl, Nat.le_of_ble_eq_true rfl, ?_⟩
  | refine ⟨[_, _, _, _, _, _], rfl, Nat.le_of_ble_eq_true rfl, ?_⟩
  | refine ⟨[_, _, _, _, _, _, _], rfl, Nat.le_of_ble_eq_true rfl, ?_⟩
  | refine ⟨[_, _, _, _, _, _, _, _], rfl, Nat.le_of_ble_eq_true rfl, ?_⟩
  | refine ⟨[_, _, _, _, _, _, _, _, _], rfl, Nat.le_of_ble_eq_true rfl, ?_⟩
  | refine ⟨[_, _, _, _, _, _, _, _, _, _], rfl, Nat.le_of_ble_eq_true rfl, ?_⟩
  | refine ⟨[_, _, _, _, _, _, _, _, _, _, _], rfl, Nat.le_of_ble_eq_true rfl, ?_⟩
  | refine ⟨[_, _, _, _, _, _, _, _, _, _, _, _], rfl, Nat.le_of_ble_eq_true rfl, ?_⟩)
local macro_rules | `(tactic| walk_at "alc") => `(tactic| refine ae_call0 (Ψ := fun _ _ => False) (by walk_at "almono") efits_none ?_)
local macro_rules | `(tactic| walk_at "al") => `(tactic| repeat (first | walk_at "al1" | with_reducible refine as_seq ?_ | with_reducible refine ae_tup ?_ | with_reducible walk_at "alc" | refine ⟨_, rfl, ?_⟩ | walk_at "alds" | refine ⟨_, _, _, _, _, rfl, rfl, rfl, rfl, rfl, ?_⟩))
local macro_rules | `(tactic| walk_at "alF") => `(tactic| repeat (first | walk_at "al1" | with_reducible refine as_seq ?_ | with_reducible refine ae_tup ?_ | with_reducible refine ae_lst ?_ | with_reducible walk_at "alc" | refine ⟨_, rfl, ?_⟩ | walk_at "alds" | refine ⟨_, _, _, _, _, rfl, rfl, rfl, rfl, rfl, ?_⟩))
local macro_rules | `(tactic| walk_at "alo") => `(tactic| repeat (first | walk_at "al1" | with_reducible refine ae_tup ?_ | with_reducible walk_at "alc" | refine ⟨_, rfl, ?_⟩ | walk_at "alds" | refine ⟨_, _, _, _, _, rfl, rfl, rfl, rfl, rfl, ?_⟩))
local macro_rules | `(tactic| walk_at "almono") => `(tactic| first | exact mono_whole | exact mono_from | exact mono_size | exact mono_hears | exact mono_rows)
section
variable {P : Program} {w : World} {K : PySem.W.Frag} {mg : Str → Option Value} {base : Heap} {C : Addr}
theorem ok_rows (D : DefAt K mg "rows_heard" (top 19) ["rooms", "hears"]) (T : Bt mg) (R : RoomC K C) (G_is_size : FnAt P w K mg base CX0 3 "is_size" ["thing"] aSize) :
    FnAt P w K mg base CX0 4 "rows_heard" ["rooms", "hears"] (aRows C) := by
  refine fnat D sc_rows_heard (fun xs M Φ Ψ h => ?_) (fun f cdv A outer s H E hr => ⟨_, (pss_cons (ps_set (i := 2) sc_rows_heard.nd rfl (Or.inl rfl) pe_int) (pss_cons (ps_for PassesOwn.never rfl (pi_seqK K (pv 1)) (pg_name (i := 3) sc_rows_heard.nd rfl (Or.inl rfl)) (pss_cons (ps_if (pt_not (pt_val (pe_fn G_is_size (hr.mono (by decide)) rfl pass0 (pa_cons (pe_fldK K (pe_ix (k_ix K) (pv 0) (pv 3) (fun _ _ => rfl)) (by rfl)) pa_nil)))) (pss_one (ps_ret pe_non)) pss_nil) (pss_one (ps_aug (i := 2) sc_rows_heard.nd rfl (Or.inl rfl) (pe_fldK K (pe_ix (k_ix K) (pv 0) (pv 3) (fun _ _ => rfl)) (by rfl)) iop_mul)))) (pss_one (ps_ret (pv 2))))), fun B xs M Φ Ψ hB h => ?_⟩)
  · obtain ⟨rs, l, rfl, _⟩ := h
    rfl
  · obtain ⟨rs, l, rfl, rfl, hf, h3, hl, p⟩ := h
    refine as_seq (as_asgN (ae_int ?_))
    refine as_seq (as_for (n := 0) (fun i σ M => ∃ (acc : Int) (r : Option AV), M = [] ∧ σ = [some (.d (.tup (rs.map (Rd.d C)))), some (.d (.tup l)), some (.d (.int acc)), r] ∧ rowsD rs l 1 = rowsD rs (l.drop i) acc ∧ 0 ≤ acc ∧ acc ≤ 60 ^ i ∧ i ≤ 3)
      (fun i σ M ⟨acc, r, e, _⟩ => by rw [e]; rfl) (ai_seqT (ae_var rfl ⟨l, rfl, ⟨1, none, rfl, rfl, rfl, by decide, by decide, by decide⟩, fun i d σ' M' hd hi => ?_, fun σ' M' hi => ?_⟩)))
    · obtain ⟨acc, r, rfl, rfl, e, h0, h60, hi3⟩ := hi
      have hlt := (List.getElem?_eq_some_iff.mp hd).1
      have hdr : l.drop i = d :: l.drop (i + 1) := by
        rw [List.drop_eq_getElem_cons hlt]
        rw [List.getElem?_eq_getElem hlt] at hd
        cases hd; rfl
      obtain ⟨k, rfl, hk⟩ := ear_in (List.all_eq_true.mp hl d (List.mem_of_getElem? hd))
      have hkl : k < rs.length := by omega
      have hx : rs[k]? = some rs[k] := List.getElem?_eq_getElem hkl
      have hfine := hf _ (List.getElem_mem hkl)
      have e2 : rowsD rs l 1 = if fromB 1 60 rs[k].s = true then rowsD rs (l.drop (i + 1)) (acc * toI rs[k].s) else none := by
        rw [e, hdr]
        show (match rs[((k : Nat) : Int).toNat]? with | some x => _ | none => _) = _
        rw [Int.toNat_natCast, hx]
      have hac : acc ≤ 216000 := by
        have : i = 0 ∨ i = 1 ∨ i = 2 := by omega
        rcases this with rfl | rfl | rfl
        · exact Int.le_trans h60 (by decide)
        · exact Int.le_trans h60 (by decide)
        · exact Int.le_trans h60 (by decide)
      walk_at "al"
      refine ae_fld (ae_op (ae_var rfl (ae_var rfl (ur_ixT (room_at hx) ⟨C, nms, _, _, rfl, R.cl, R.size, rfl, ?_⟩))))
      walk_at "al"
      refine sent0 (ys := [rs[k].s]) mono_size ?_
      refine ⟨rs[k].s, rfl, rfl, hfine.s, rfl, _, rfl, _, rfl, iteB (fun hs => ?_) fun hs => ?_⟩
      · have hs : fromB 1 60 rs[k].s = false := by simpa using hs
        walk_at "al"
        rw [e2, if_neg (by rw [hs]; exact Bool.false_ne_true)] at p
        exact rt_d p
      · have hs : fromB 1 60 rs[k].s = true := by simpa using hs
        obtain ⟨sz, es, s1, s60⟩ := size_in hs
        walk_at "al"
        refine as_augM rfl (ae_fld (ae_op (ae_var rfl (ae_var rfl (ur_ixT (room_at hx) ⟨C, nms, _, _, rfl, R.cl, R.size, rfl, sz, by rw [es], .inl ⟨by omega, by omega⟩, ?_⟩)))))
        rw [if_pos hs, es] at e2
        refine ⟨by simp, acc * sz, some (.d (.int k)), rfl, rfl, e2, Int.mul_nonneg h0 (by omega), ?_, by omega⟩
        rw [Int.pow_succ]
        exact Int.mul_le_mul h60 s60 (by omega) (Int.le_of_lt (Int.pow_pos (by decide)))
    · obtain ⟨acc, r, rfl, rfl, e, h0, h60, hi3⟩ := hi
      rw [List.drop_length] at e
      walk_at "al"
      rw [e] at p
      exact rt_d p
/-- as is_rule tells it -/
def earsOf : D → List D | .tup l => l | _ => []
def ruleB (rs : List Rd) (x : Rd) : Bool := match x.r with
  | .tup l => match rowsD rs (earsOf x.h) 1 with
    | some n => !decide (2000 < n) && (decide ((l.length : Int) = n) && l.all (fromB 0 (toI x.s - 1)))
    | none => true
  | _ => true
def aRule (C : Addr) : ASp := fun xs M Φ _ => ∃ (rs : List Rd) (k : Nat) (x : Rd), xs = [.d (.tup (rs.map (Rd.d C))), .d (.int k)] ∧ M = [] ∧ (∀ x ∈ rs, x.Fine) ∧ rs[k]? = some x ∧ hearsB rs.length x.h = true ∧ fromB 1 60 x.s = true ∧ Φ (.d (.bl (ruleB rs x))) []
theorem mono_rule {C : Addr} : Mono (aRule C) := fun xs M Φ Φ' Ψ Ψ' h1 _ ⟨rs, k, x, e1, e2, e3, e4, e5, e6, p⟩ => ⟨rs, k, x, e1, e2, e3, e4, e5, e6, h1 _ _ p⟩
theorem hears_in {n : Int} {d : D} (h : hearsB n d = true) : ∃ l, d = .tup l ∧ l.length ≤ 3 ∧ l.all (fromB 0 (n - 1)) = true ∧ (l.map toI).Nodup := by
  cases d with
  | tup l =>
    have h : (decide (l.length ≤ 3) && (l.all (fromB 0 (n - 1)) && decide (l.map toI).Nodup)) = true := h
    rw [Bool.and_eq_true, Bool.and_eq_true] at h
    exact ⟨l, rfl, of_decide_eq_true h.1, h.2.1, of_decide_eq_true h.2.2⟩
  | _ => cases h
theorem rows_le {rs : List Rd} : ∀ {l : List D} {a n : Int}, 0 ≤ a → a ≤ 60 ^ (3 - l.length) * 1 → l.length ≤ 3 → rowsD rs l a = some n → 0 ≤ n ∧ n ≤ 216000 := by
  intro l
  induction l with
  | nil => intro a n h0 h1 _ h; cases h; exact ⟨h0, Int.le_trans h1 (by decide)⟩
  | cons e es ih =>
    intro a n h0 h1 hl h
    have h : (match rs[(toI e).toNat]? with | some x => if fromB 1 60 x.s = true then rowsD rs es (a * toI x.s) else none | none => none) = some n := h
    cases hx : rs[(toI e).toNat]? with
    | none => rw [hx] at h; cases h
    | some x =>
      rw [hx] at h
      dsimp only at h
      by_cases hs : fromB 1 60 x.s = true
      · rw [if_pos hs] at h
        obtain ⟨sz, es', s1, s60⟩ := size_in hs
        rw [es'] at h
        refine ih (Int.mul_nonneg h0 (show 0 ≤ sz by omega)) ?_ (by simp at hl; omega) h
        simp at hl
        have e3 : 3 - es.length = (3 - (es.length + 1)) + 1 := by omega
        rw [e3, Int.pow_succ, Int.mul_one]
        rw [List.length_cons, Int.mul_one] at h1
        exact Int.mul_le_mul h1 s60 (show 0 ≤ sz by omega) (Int.le_of_lt (Int.pow_pos (by decide)))
      · rw [if_neg hs] at h; cases h
theorem ok_rule (D : DefAt K mg "is_rule" (top 20) ["rooms", "at"]) (T : Bt mg) (R : RoomC K C) (G_rows_heard : FnAt P w K mg base CX0 4 "rows_heard" ["rooms", "hears"] (aRows C)) (G_is_from : FnAt P w K mg base CX0 2 "is_from" ["thing", "least", "most"] aFrom) {t : Tok} (g_MOST_TABLE : mg "MOST_TABLE" = some (.int 2000 t)) :
    FnAt P w K mg base CX0 5 "is_rule" ["rooms", "at"] (aRule C) := by
  refine fnat D sc_is_rule (fun xs M Φ Ψ h => ?_) (fun f cdv A outer s H E hr => ⟨_, (pss_cons (ps_set (i := 2) sc_is_rule.nd rfl (Or.inr rfl) (pe_ix (k_ix K) (pv 0) (pv 1) (fun _ _ => rfl))) (pss_cons (ps_if (pt_not (pt_val (pe_callB (k_isi K) (by rfl) T.isinstance (by decide +kernel) (pa_cons (pe_fldK K (pv 2) (by rfl)) (pa_cons (pe_bltn (v := .ty "tuple") (by rfl) T.tuple (by decide +kernel) rfl) pa_nil))))) (pss_one (ps_ret pe_bl)) pss_nil) (pss_cons (ps_set (i := 3) sc_is_rule.nd rfl (Or.inl rfl) (pe_fn G_rows_heard (hr.mono (by decide)) rfl pass0 (pa_cons (pv 0) (pa_cons (pe_fldK K (pv 2) (by rfl)) pa_nil)))) (pss_cons (ps_if (pt_cmpR op_isN (pv 3) pe_non (nomark _)) (pss_one (ps_ret pe_bl)) pss_nil) (pss_cons (ps_if (PW.pt (pw_or (pt_cmpR op_gt (pv 3) (pe_glob (v := .int 2000) rfl g_MOST_TABLE ⟨_, rfl⟩) (nomark _)) (pw_or1 (pt_cmpR (k_ne K hr.units) (pe_callB (k_len K) (by rfl) T.len (by decide +kernel) (pa_cons (pe_fldK K (pv 2) (by rfl)) pa_nil)) (pv 3) (nomark _))))) (pss_one (ps_ret pe_bl)) pss_nil) (pss_one (ps_ret (pe_callB (k_all K rfl) (by rfl) T.all (by decide +kernel) (pa_cons (pe_lc (own := [("stand", 4)]) rfl sc_is_rule.nd (pi_seqK K (by exact (pe_fldK K (pv 2) (by rfl)))) (blkOk_by (own := [("stand", 4)]) (N := ["rooms", "at", "own", "rows", "stand"]) (sc := defScope (top 20)) (by decide +kernel)) (fun _ _ _ _ _ => by exact (pg_name (i := 4) sc_is_rule.nd rfl (Or.inl rfl))) (fun _ _ _ _ _ => by exact pts_nil) (fun _ _ _ _ _ => by exact (pe_fn G_is_from (hr.mono (by decide)) rfl pass0 (pa_cons (pv 4) (pa_cons pe_int (pa_cons (pe_op op_sub (pe_fldK K (pv 2) (by rfl)) pe_int) pa_nil)))))) pa_nil))))))))), fun B xs M Φ Ψ hB h => ?_⟩)
  · obtain ⟨rs, k, x, rfl, _⟩ := h
    rfl
  · obtain ⟨rs, k, x, rfl, rfl, hf, hx, hh, hs, p⟩ := h
    have hfine := hf x (List.mem_of_getElem? hx)
    obtain ⟨el, eh, h3, hall, _⟩ := hears_in hh
    obtain ⟨sz, es, s1, s60⟩ := size_in hs
    refine as_seq (as_asgN (ae_op (ae_var rfl (ae_var rfl (ur_ixT (room_at hx) ?_)))))
    walk_at "al"
    refine ae_fld (ae_var rfl ⟨C, nms, _, _, rfl, R.cl, R.rule, rfl, ?_⟩)
    walk_at "al"
    refine uc_isiB hfine.r.ty hfine.r.kit ⟨_, rfl, iteB (fun hb => ?_) fun hb => ?_⟩
    · walk_at "al"
      have e : ruleB rs x = true := by
        unfold ruleB
        cases er : x.r with
        | tup l => rw [er] at hb; exact absurd hb (by simp [tupB])
        | _ => rfl
      rw [e] at p
      exact rt_d p
    · have hb : tupB x.r = true := by simpa using hb
      obtain ⟨rl, er⟩ : ∃ rl, x.r = .tup rl := by
        cases er : x.r with
        | tup l => exact ⟨l, rfl⟩
        | _ => rw [er] at hb; cases hb
      walk_at "al"
      refine ae_fld (ae_var rfl ⟨C, nms, _, _, rfl, R.cl, R.hears, rfl, ?_⟩)
      walk_at "al"
      refine sent0 (ys := [.tup (rs.map (Rd.d C)), x.h]) mono_rows ?_
      refine ⟨rs, el, by rw [eh]; rfl, rfl, hf, h3, hall, rfl, _, rfl, ?_⟩
      cases hrow : rowsD rs el 1 with
      | none =>
        dsimp only [optI]
        walk_at "al"
        refine ar_isN ⟨_, rfl, iteB (fun _ => ?_) (fun z => nomatch z)⟩
        walk_at "al"
        have e : ruleB rs x = true := by unfold ruleB; rw [er, eh]; dsimp only [earsOf]; rw [hrow]
        rw [e] at p
        exact rt_d p
      | some n =>
        have hn := rows_le (l := el) (by decide) (by
          rw [Int.mul_one]
          exact Int.le_of_lt_add_one (by
            have : (0 : Int) < 60 ^ (3 - el.length) := Int.pow_pos (by decide)
            omega)) h3 hrow
        have e : ruleB rs x = (!decide (2000 < n) && (decide ((rl.length : Int) = n) && rl.all (fromB 0 (toI x.s - 1)))) := by unfold ruleB; rw [er, eh]; dsimp only [earsOf]; rw [hrow]
        rw [e] at p
        dsimp only [optI]
        walk_at "al"
        refine ar_isN ⟨_, rfl, (fun z => nomatch z), fun _ => ?_⟩
        walk_at "al"
        refine iteB (fun h2 => ?_) fun h2 => ?_
        · have h2 : decide (2000 < n) = true := h2
          refine ⟨fun _ => ?_, (fun z => nomatch z)⟩
          walk_at "al"
          rw [h2] at p
          exact rt_d p
        · have h2 : decide (2000 < n) = false := h2
          walk_at "al"
          refine ae_fld (ae_var rfl ⟨C, nms, _, _, rfl, R.cl, R.rule, rfl, ?_⟩)
          rw [er]
          walk_at "al"
          refine iteB (fun h4 => ?_) fun h4 => ?_
          · have h4 : decide ((rl.length : Int) = n) = false := by simpa using h4
            walk_at "al"
            rw [h2, h4] at p
            exact rt_d p
          · have h4 : decide ((rl.length : Int) = n) = true := by simpa using h4
            have h5 := of_decide_eq_false h2
            have h6 := of_decide_eq_true h4
            walk_at "al"
            refine ae_map (l := rl) (fun d => .bl (fromB 0 (toI x.s - 1) d)) rfl (gk_name rfl) (by rw [sizeLine_eq]; omega) (ai_seqT (ae_fld (ae_var rfl ⟨C, nms, _, _, rfl, R.cl, R.rule, rfl, rl, by rw [er], rfl, rfl, ?_⟩))) fun d hd acc => ?_
            · walk_at "al"
              refine uc_allP _ (.lst _) ?_
              rw [h2, h4] at p
              exact rt_d p
            · walk_at "al"
              refine ae_fld (ae_var rfl ⟨C, nms, _, _, rfl, R.cl, R.size, rfl, ?_⟩)
              rw [es]
              walk_at "al"
              refine sent0 (ys := [d, .int 0, .int (sz - 1)]) mono_from ?_
              have hr := hfine.r
              rw [er] at hr
              have hr := hr.tup
              exact ⟨d, 0, sz - 1, rfl, rfl, List.all_eq_true.mp hr d hd, rfl, _, rfl, rfl, rfl⟩
end
end Wd

namespace Wd
open PySem PyProof.Rows L2 Al Gx
variable [Al.TabList]
theorem sc_look_rooms : FnScope ["rooms", "one", "at", "what"] ["rooms"] (defScope (top 22)) := ⟨rfl, rfl, rfl, by decide +kernel, rfl, by decide +kernel, by decide +kernel⟩
def faultD (rs : List Rd) (x : Rd) : Option Str :=
  if hearsB rs.length x.h = true then if fromB 1 60 x.s = true then if fromB 0 (toI x.s - 1) x.f = true then if ruleB rs x = true then none else some "rule" else some "first" else some "size" else some "hears"
def optS : Option Str → D | some s => .str s | none => .non
def aFault (C : Addr) : ASp := fun xs M Φ _ => ∃ (rs : List Rd) (k : Nat) (x : Rd), xs = [.d (.tup (rs.map (Rd.d C))), .d (.int k)] ∧ M = [] ∧ (∀ x ∈ rs, x.Fine) ∧ rs[k]? = some x ∧ Φ (.d (optS (faultD rs x))) []
theorem mono_fault {C : Addr} : Mono (aFault C) := fun xs M Φ Φ' Ψ Ψ' h1 _ ⟨rs, k, x, e1, e2, e3, e4, p⟩ => ⟨rs, k, x, e1, e2, e3, e4, h1 _ _ p⟩
def firstF (rs : List Rd) : Nat → List Rd → Option (Int × Str)
  | _, [] => none
  | k, x :: xs => match faultD rs x with | some s => some ((k : Int), s) | none => firstF rs (k + 1) xs
/-- what is no web's rooms -/
def webD (rs : List Rd) : Option (Int × Str) := if 1 ≤ rs.length ∧ rs.length ≤ 12 then firstF rs 0 rs else some (-1, "rooms")
/-- the end of a def that refuses with the class at CE, or tells x -/
def endW (CE : Addr) (o : Option (Int × Str)) (x : AV) (M : List MO) (Φ : AV → List MO → Prop) (Ψ : Exc → List MO → Prop) : Prop := match o with
  | none => Φ x M
  | some (k, s) => Ψ (CE, [("at", .int k), ("what", .str s)]) M
theorem endW_mono {CE : Addr} {o : Option (Int × Str)} {x : AV} {M M' : List MO} {Φ Φ' : AV → List MO → Prop} {Ψ Ψ' : Exc → List MO → Prop} (h1 : Φ x M → Φ' x M) (h2 : ∀ e, Ψ e M → Ψ' e M) (h : endW CE o x M Φ Ψ) : endW CE o x M Φ' Ψ' := by
  cases o with
  | none => exact h1 h
  | some q => exact h2 _ h
/-- what is no tuple of one to twelve rooms -/
def NotRooms (K : PySem.W.Frag) (C : Addr) (d : D) : Prop := TyL K d ∧ (PySem.W.kitOne K (tyD d) (.type "tuple") = some false ∨ ∃ l, d = .tup l ∧
  (l.length = 0 ∨ 12 < l.length ∨ ∃ g : D → Bool, (∀ y ∈ l, TyL K y ∧ PySem.W.kitOne K (tyD y) (.ref C) = some (g y)) ∧ l.all g = false))
def aLook (K : PySem.W.Frag) (C CE : Addr) : ASp := fun xs M Φ Ψ => (∃ (rs : List Rd), xs = [.d (.tup (rs.map (Rd.d C)))] ∧ M = [] ∧ (∀ x ∈ rs, x.Fine) ∧ rs.length ≤ 1000 ∧ endW CE (webD rs) (.d .non) [] Φ Ψ) ∨
  ∃ d : D, xs = [.d d] ∧ M = [] ∧ NotRooms K C d ∧ Ψ (CE, [("at", .int (-1)), ("what", .str "rooms")]) []
theorem mono_look {K : PySem.W.Frag} {C CE : Addr} : Mono (aLook K C CE) := fun xs M Φ Φ' Ψ Ψ' h1 h2 h => h.imp (fun ⟨rs, e1, e2, e3, e4, p⟩ => ⟨rs, e1, e2, e3, e4, endW_mono (M' := []) (h1 _ _) (fun e => h2 e _) p⟩) fun ⟨d, e1, e2, e3, p⟩ => ⟨d, e1, e2, e3, h2 _ _ p⟩
theorem xt_d {Ψ : Exc → List MO → Prop} {e : Exc} (h : Ψ e []) : XT 0 Ψ e [] := ⟨0, Nat.le_refl _, by simp, h⟩
theorem flats_tup {x : D} (h : flats x = true) : flatD x = true := flats_flat h
local macro_rules | `(tactic| walk_at "alside") => `(tactic| first
  | decide
  | (dsimp only; decide)
  | exact Or.inr (by decide)
  | exact Or.inl (by decide)
  | (dsimp only; omega)
  | (unfold CDiv; omega)
  | (unfold CPow; omega)
  | (unfold CMul; omega)
  | assumption)
local macro_rules | `(tactic| walk_at "al1") => `(tactic| first
  | with_reducible refine as_asg ?_
  | with_reducible refine as_drop ?_
  | with_reducible refine as_ret ?_
  | with_reducible refine as_if ?_
  | with_reducible refine as_next ?_
  | with_reducible refine at_test ?_
  | with_reducible refine at_b ?_
  | with_reducible refine at_and ?_
  | with_reducible refine at_or ?_
  | with_reducible refine at_not ?_
  | with_reducible refine ae_op ?_
  | with_reducible refine ae_un ?_
  | with_reducible refine ae_cb ?_
  | with_reducible refine ae_if ?_
  | with_reducible refine ae_andV ?_
  | with_reducible refine ae_orV ?_
  | with_reducible refine ae_notV ?_
  | with_reducible refine ae_chain ?_
  | with_reducible refine ae_int ?_
  | with_reducible refine ae_bl ?_
  | with_reducible refine ae_non ?_
  | with_reducible refine ae_str ?_
  | with_reducible refine ae_ty ?_
  | with_reducible refine ae_adr ?_
  | with_reducible refine aa_nil ?_
  | with_reducible refine aa_cons ?_
  | with_reducible refine ag_name ?_
  | with_reducible refine ag_sub ?_
  | with_reducible refine at_yes ?_
  | ((with_reducible show AE _ _ (tVar _) _ _ _); refine ae_var rfl ?_)
  | ((with_reducible show AR _ _ (uAdd _) _ _ _ _); refine ur_addI ?_)
  | ((with_reducible show AR _ _ (uMul _) _ _ _ _); refine ur_mulI (by walk_at "alside") ?_)
  | ((with_reducible show AR _ _ (uEq _) _ _ _ _); first | refine ur_eqI ?_ | refine ur_eqS ?_ | refine ur_eqB ?_)
  | ((with_reducible show AR _ _ (uNe _) _ _ _ _); first | refine ur_neI ?_ | refine ur_neS ?_ | refine ur_neB ?_)
  | ((with_reducible show AR _ _ (rIx _) _ _ _ _); first | refine ur_ixM rfl rfl ?_ | refine ur_ixL rfl ?_ | refine ur_ixT rfl ?_ | refine ur_ixS rfl ?_)
  | ((with_reducible show AC _ _ (uLen _) _ _ _); first | refine uc_len (.tup _) ?_ | refine uc_len (.lst _) ?_ | refine uc_len (.scr _) ?_ | refine uc_len (.mm rfl) ?_)
  | ((with_reducible show AR _ _ (rI0 _) _ _ _ _); first | with_reducible refine ar_i0 ?_ | with_reducible refine ar_b0 ?_)
  | ((with_reducible show AU _ _ (rU _) _ _ _); with_reducible refine au_i ?_)
  | ((with_reducible show AR _ _ (rI _ _) _ _ _ _); refine ar_i (by walk_at "alside") ?_)
  | ((with_reducible show AR _ _ (rIxL _) _ _ _ _); first | refine ar_ixM rfl rfl ?_ | refine ar_ixL rfl ?_ | refine ar_ixS rfl ?_)
  | ((with_reducible show AR _ _ (rIxT _) _ _ _ _); refine ar_ixT rfl ?_)
  | ((with_reducible show AR _ _ rEq _ _ _ _); first | with_reducible refine ar_eqI ?_ | with_reducible refine ar_eqS ?_ | with_reducible refine ar_eqB ?_)
  | ((with_reducible show AR _ _ rNe _ _ _ _); first | with_reducible refine ar_neI ?_ | with_reducible refine ar_neS ?_ | with_reducible refine ar_neB ?_))
local macro_rules | `(tactic| walk_at "alds") => `(tactic| first
  | refine ⟨[], rfl, Nat.le_of_ble_eq_true rfl, ?_⟩
  | refine ⟨[_], rfl, Nat.le_of_ble_eq_true rfl, ?_⟩
  | refine ⟨[_, _], rfl, Nat.le_of_ble_eq_true rfl, ?_⟩
  | refine ⟨[_, _, _], rfl, Nat.le_of_ble_eq_true rfl, ?_⟩
  | refine ⟨[_, _, _, _], rfl, Nat.le_of_ble_eq_true rfl, ?_⟩
  | refine ⟨[_, _, _, _, _], rfl, Nat.le_of_ble_eq_true rfl, ?_⟩
  | refine ⟨[_, _, _, _, _, _], rfl, Nat.le_of_ble_eq_true rfl, ?_⟩
  | refine ⟨[_, _, _, _, _, _, _], rfl, Nat.le_of_ble_eq_true rfl, ?_⟩
  | refine ⟨[_, _, _, _, _, _, _, _], rfl, Nat.le_of_ble_eq_true rfl, ?_⟩
  | refine ⟨[_, _, _, _, _, _, _, _, _], rfl, Nat.le_of_ble_eq_true rfl, ?_⟩
  | refine ⟨[_, _, _, _, _, _, _, _, _, _], rfl, Nat.le_of_ble_eq_true rfl, ?_⟩
  | refine ⟨[_, _, _, _, _, _, _, _, _, _, _], rfl, Nat.le_of_ble_eq_true rfl, ?_⟩
  | refine ⟨[_, _, _, _, _, _, _, _, _, _, _, _], rfl, Nat.le_of_ble_eq_true rfl, ?_⟩)
local macro_rules | `(tactic| walk_at "alc") => `(tactic| refine ae_call0 (Ψ := fun _ _ => False) (by walk_at "almono") efits_none ?_)
local macro_rules | `(tactic| walk_at "al") => `(tactic| repeat (first | walk_at "al1" | with_reducible refine as_seq ?_ | with_reducible refine ae_tup ?_ | with_reducible walk_at "alc" | refine ⟨_, rfl, ?_⟩ | walk_at "alds" | refine ⟨_, _, _, _, _, rfl, rfl, rfl, rfl, rfl, ?_⟩))
local macro_rules | `(tactic| walk_at "alF") => `(tactic| repeat (first | walk_at "al1" | with_reducible refine as_seq ?_ | with_reducible refine ae_tup ?_ | with_reducible refine ae_lst ?_ | with_reducible walk_at "alc" | refine ⟨_, rfl, ?_⟩ | walk_at "alds" | refine ⟨_, _, _, _, _, rfl, rfl, rfl, rfl, rfl, ?_⟩))
local macro_rules | `(tactic| walk_at "alo") => `(tactic| repeat (first | walk_at "al1" | with_reducible refine ae_tup ?_ | with_reducible walk_at "alc" | refine ⟨_, rfl, ?_⟩ | walk_at "alds" | refine ⟨_, _, _, _, _, rfl, rfl, rfl, rfl, rfl, ?_⟩))
local macro_rules | `(tactic| walk_at "almono") => `(tactic| first | exact mono_whole | exact mono_from | exact mono_size | exact mono_hears | exact mono_rows | exact mono_rule | exact mono_fault)
section
variable {P : Program} {w : World} {K : PySem.W.Frag} {mg : Str → Option Value} {base : Heap} {C CE : Addr}
theorem ok_fault (D : DefAt K mg "fault_of" (top 21) ["rooms", "at"]) (T : Bt mg) (R : RoomC K C) (G_are_hears : FnAt P w K mg base CX0 3 "are_hears" ["thing", "many"] aHears) (G_is_size : FnAt P w K mg base CX0 3 "is_size" ["thing"] aSize)
    (G_is_from : FnAt P w K mg base CX0 2 "is_from" ["thing", "least", "most"] aFrom) (G_is_rule : FnAt P w K mg base CX0 5 "is_rule" ["rooms", "at"] (aRule C)) : FnAt P w K mg base CX0 6 "fault_of" ["rooms", "at"] (aFault C) := by
  refine fnat D sc_fault_of (fun xs M Φ Ψ h => ?_) (fun f cdv A outer s H E hr => ⟨_, (pss_cons (ps_set (i := 2) sc_fault_of.nd rfl (Or.inl rfl) (pe_ix (k_ix K) (pv 0) (pv 1) (fun _ _ => rfl))) (pss_cons (ps_if (pt_not (pt_val (pe_fn G_are_hears (hr.mono (by decide)) rfl pass0 (pa_cons (pe_fldK K (pv 2) (by rfl)) (pa_cons (pe_callB (k_len K) (by rfl) T.len (by decide +kernel) (pa_cons (pv 0) pa_nil)) pa_nil))))) (pss_one (ps_ret pe_str)) pss_nil) (pss_cons (ps_if (pt_not (pt_val (pe_fn G_is_size (hr.mono (by decide)) rfl pass0 (pa_cons (pe_fldK K (pv 2) (by rfl)) pa_nil)))) (pss_one (ps_ret pe_str)) pss_nil) (pss_cons (ps_if (pt_not (pt_val (pe_fn G_is_from (hr.mono (by decide)) rfl pass0 (pa_cons (pe_fldK K (pv 2) (by rfl)) (pa_cons pe_int (pa_cons (pe_op op_sub (pe_fldK K (pv 2) (by rfl)) pe_int) pa_nil)))))) (pss_one (ps_ret pe_str)) pss_nil) (pss_one (ps_ret (pe_ifExp (pt_val (pe_fn G_is_rule (hr.mono (by decide)) rfl pass0 (pa_cons (pv 0) (pa_cons (pv 1) pa_nil)))) pe_non pe_str))))))), fun B xs M Φ Ψ hB h => ?_⟩)
  · obtain ⟨rs, k, x, rfl, _⟩ := h
    rfl
  · obtain ⟨rs, k, x, rfl, rfl, hf, hx, p⟩ := h
    have hfine := hf x (List.mem_of_getElem? hx)
    refine as_seq (as_asgN (ae_op (ae_var rfl (ae_var rfl (ur_ixT (room_at hx) ?_)))))
    walk_at "al"
    refine ae_fld (ae_var rfl ⟨C, nms, _, _, rfl, R.cl, R.hears, rfl, ?_⟩)
    walk_at "al"
    rw [List.length_map]
    refine sent0 (ys := [x.h, .int rs.length]) mono_hears ?_
    refine ⟨x.h, rs.length, rfl, rfl, hfine.h, rfl, _, rfl, _, rfl, iteB (fun h1 => ?_) fun h1 => ?_⟩
    · have h1 : hearsB rs.length x.h = false := by simpa using h1
      walk_at "al"
      unfold faultD at p
      rw [if_neg (by rw [h1]; exact Bool.false_ne_true)] at p
      exact rt_d p
    have h1 : hearsB rs.length x.h = true := by simpa using h1
    unfold faultD at p
    rw [if_pos h1] at p
    walk_at "al"
    refine ae_fld (ae_var rfl ⟨C, nms, _, _, rfl, R.cl, R.size, rfl, ?_⟩)
    walk_at "al"
    refine sent0 (ys := [x.s]) mono_size ?_
    refine ⟨x.s, rfl, rfl, hfine.s, rfl, _, rfl, _, rfl, iteB (fun h2 => ?_) fun h2 => ?_⟩
    · have h2 : fromB 1 60 x.s = false := by simpa using h2
      walk_at "al"
      rw [if_neg (by rw [h2]; exact Bool.false_ne_true)] at p
      exact rt_d p
    have h2 : fromB 1 60 x.s = true := by simpa using h2
    rw [if_pos h2] at p
    obtain ⟨sz, es, s1, s60⟩ := size_in h2
    walk_at "al"
    refine ae_fld (ae_var rfl ⟨C, nms, _, _, rfl, R.cl, R.first, rfl, ?_⟩)
    walk_at "al"
    refine ae_fld (ae_var rfl ⟨C, nms, _, _, rfl, R.cl, R.size, rfl, ?_⟩)
    rw [es]
    walk_at "al"
    refine sent0 (ys := [x.f, .int 0, .int (sz - 1)]) mono_from ?_
    refine ⟨x.f, 0, sz - 1, rfl, rfl, hfine.f, rfl, _, rfl, _, rfl, iteB (fun h3 => ?_) fun h3 => ?_⟩
    · have h3 : fromB 0 (toI x.s - 1) x.f = false := by rw [es]; show fromB 0 (sz - 1) x.f = _; simpa using h3
      walk_at "al"
      rw [if_neg (by rw [h3]; exact Bool.false_ne_true)] at p
      exact rt_d p
    have h3 : fromB 0 (toI x.s - 1) x.f = true := by rw [es]; show fromB 0 (sz - 1) x.f = _; simpa using h3
    rw [if_pos h3] at p
    walk_at "al"
    refine sent0 (ys := [.tup (rs.map (Rd.d C)), .int k]) mono_rule ?_
    refine ⟨rs, k, x, rfl, rfl, hf, hx, h1, h2, rfl, _, rfl, _, rfl, fun h4 => ?_, fun h4 => ?_⟩
    · walk_at "al"
      rw [if_pos h4] at p
      exact rt_d p
    · walk_at "al"
      rw [if_neg (by rw [h4]; exact Bool.false_ne_true)] at p
      exact rt_d p
theorem firstF_drop {rs : List Rd} {i : Nat} {x : Rd} (h : rs[i]? = some x) : firstF rs i (rs.drop i) = match faultD rs x with | some s => some ((i : Int), s) | none => firstF rs (i + 1) (rs.drop (i + 1)) := by
  have hl := (List.getElem?_eq_some_iff.mp h).1
  rw [List.drop_eq_getElem_cons hl]
  rw [List.getElem?_eq_getElem hl] at h
  cases h
  rfl
theorem ok_look {C_Room C_NoWeb : Addr} (D : DefAt K mg "look_rooms" (top 22) ["rooms"]) (T : Bt mg) (I : InsC K C_Room) (c_Room : mg "Room" = some (.ref C_Room)) (X_NoWeb : XcAt P w K mg C_NoWeb "NoWeb" ["at", "what"]) (G_fault_of : FnAt P w K mg base CX0 6 "fault_of" ["rooms", "at"] (aFault C_Room))
    {t : Tok} (g_MOST_ROOMS : mg "MOST_ROOMS" = some (.int 12 t)) : FnAt P w K mg base (L2.CX P w) 7 "look_rooms" ["rooms"] (aLook K C_Room C_NoWeb) := by
  refine fnatX D sc_look_rooms (fun xs M Φ Ψ h => ?_) (fun f cdv A outer s H E hr => ⟨_, (pss_cons (ps_if (PW.pt (pw_or (pt_not (pt_val (pe_callB (k_isi K) (by rfl) T.isinstance (by decide +kernel) (pa_cons (pv 0) (pa_cons (pe_bltn (v := .ty "tuple") (by rfl) T.tuple (by decide +kernel) rfl) pa_nil))))) (pw_or1 (pt_not (pt_chain op_le op_le pe_int (pe_callB (k_len K) (by rfl) T.len (by decide +kernel) (pa_cons (pv 0) pa_nil)) (pe_glob (v := .int 12) rfl g_MOST_ROOMS ⟨_, rfl⟩)))))) (pss_one (ps_raiseX X_NoWeb rfl (takes_of rfl rfl rfl rfl) (hr.mono (by decide)) rfl (pa_cons (pe_un un_neg pe_int) (pa_cons pe_str pa_nil)))) pss_nil) (pss_cons (ps_if (pt_not (pt_val (pe_callB (k_all K rfl) (by rfl) T.all (by decide +kernel) (pa_cons (pe_lc (own := [("one", 1)]) rfl sc_look_rooms.nd (pi_seqK K (pv 0)) (blkOk_by (own := [("one", 1)]) (N := ["rooms", "one", "at", "what"]) (sc := defScope (top 22)) (by decide +kernel)) (fun _ _ _ _ _ => by exact (pg_name (i := 1) sc_look_rooms.nd rfl (Or.inl rfl))) (fun _ _ _ _ _ => by exact pts_nil) (fun _ _ _ _ _ => by exact (pe_callB (k_isi K) (by rfl) T.isinstance (by decide +kernel) (pa_cons (pv 1) (pa_cons (pe_glob (v := .ref C_Room) rfl c_Room rfl) pa_nil))))) pa_nil)))) (pss_one (ps_raiseX X_NoWeb rfl (takes_of rfl rfl rfl rfl) (hr.mono (by decide)) rfl (pa_cons (pe_un un_neg pe_int) (pa_cons pe_str pa_nil)))) pss_nil) (pss_one (ps_for (passes_of rfl) rfl (pi_range1 rfl T.range (pa_cons (pe_callB (k_len K) (by rfl) T.len (by decide +kernel) (pa_cons (pv 0) pa_nil)) pa_nil)) (pg_name (i := 2) sc_look_rooms.nd rfl (Or.inl rfl)) (pss_cons (ps_set (i := 3) sc_look_rooms.nd rfl (Or.inl rfl) (pe_fn G_fault_of (hr.mono (by decide)) rfl pass0 (pa_cons (pv 0) (pa_cons (pv 2) pa_nil)))) (pss_one (ps_if (pt_cmpR op_notN (pv 3) pe_non (nomark _)) (pss_one (ps_raiseX X_NoWeb rfl (takes_of rfl rfl rfl rfl) (hr.mono (by decide)) rfl (pa_cons (pv 2) (pa_cons (pv 3) pa_nil)))) pss_nil))))))), fun B xs M Φ Ψ hB h hE => ?_⟩)
  · obtain ⟨rs, rfl, _⟩ | ⟨d, rfl, _⟩ := h <;> rfl
  obtain ⟨rs, rfl, rfl, hf, hbig, p⟩ | ⟨d, rfl, rfl, ⟨ht, hn⟩, p⟩ := h
  · walk_at "al"
    refine uc_isiB True.intro (b := true) (kit_ty (by decide +kernel)) ⟨_, rfl, (fun z => nomatch z), fun _ => ?_⟩
    walk_at "al"
    rw [List.length_map]
    refine iteB (fun h1 => ?_) fun h1 => ?_
    · have h1 := of_decide_eq_true h1
      walk_at "al"
      refine iteB (fun h2 => ?_) fun h2 => ?_
      · have h2 : decide ((rs.length : Int) ≤ 12) = false := by simpa using h2
        have h2 := of_decide_eq_false h2
        refine as_raise hE ?_
        walk_at "al"
        refine ⟨[.int (-1), .str "rooms"], rfl, rfl, xt_d ?_⟩
        rw [show webD rs = some (-1, ("rooms" : Str)) from if_neg (by omega)] at p
        exact p
      · have h2 : decide ((rs.length : Int) ≤ 12) = true := by simpa using h2
        have h2 := of_decide_eq_true h2
        rw [show webD rs = firstF rs 0 rs from if_pos (by omega)] at p
        walk_at "al"
        refine ae_map (l := rs.map (Rd.d C_Room)) (fun _ => .bl true) rfl (gk_name rfl) (by rw [List.length_map, sizeLine_eq]; omega) (ai_seqT (ae_var rfl ⟨_, rfl, rfl, rfl, ?_⟩)) fun d hd acc => ?_
        · walk_at "al"
          refine uc_allP (fun _ => true) (.lst _) ?_
          rw [show (rs.map (Rd.d C_Room)).all (fun _ => true) = true from by simp]
          refine ⟨_, rfl, (fun z => nomatch z), fun _ => ?_⟩
          walk_at "al"
          refine as_for (n := 0) (fun i σ M => M = [] ∧ (∃ a b, σ = [some (.d (.tup (rs.map (Rd.d C_Room)))), none, a, b]) ∧ firstF rs 0 rs = firstF rs i (rs.drop i)) (fun i σ M e => by rw [e.1]; rfl)
            (ai_rng1 ?_)
          walk_at "al"
          rw [List.length_map]
          refine ⟨by omega, by omega, ⟨rfl, ⟨none, none, rfl⟩, by rw [List.drop_zero]⟩, fun i d σ' M' hd hi => ?_, fun σ' M' hi => ?_⟩
          · obtain ⟨rfl, ⟨a, b, rfl⟩, e⟩ := hi
            obtain ⟨hlt, rfl⟩ := rngD_get hd
            have hlt : i < rs.length := by omega
            have hx : rs[i]? = some rs[i] := List.getElem?_eq_getElem hlt
            rw [Int.zero_add]
            rw [firstF_drop hx] at e
            walk_at "al"
            refine sent0 (ys := [.tup (rs.map (Rd.d C_Room)), .int i]) mono_fault ?_
            refine ⟨rs, i, rs[i], rfl, rfl, hf, hx, rfl, _, rfl, ?_⟩
            rw [e] at p
            cases hfa : faultD rs rs[i] with
            | none =>
              dsimp only [optS]
              walk_at "al"
              refine ar_notN ⟨_, rfl, (fun z => nomatch z), fun _ => ?_⟩
              walk_at "al"
              rw [hfa] at e
              exact ⟨by simp, rfl, ⟨_, _, rfl⟩, e⟩
            | some y =>
              rw [hfa] at p
              dsimp only [optS]
              walk_at "al"
              refine ar_notN ⟨_, rfl, fun _ => ?_, (fun z => nomatch z)⟩
              refine as_raise hE ?_
              walk_at "al"
              exact ⟨[.int i, .str y], rfl, rfl, xt_d p⟩
          · obtain ⟨rfl, ⟨a, b, rfl⟩, e⟩ := hi
            have e : firstF rs 0 rs = none := by
              rw [e, rngD_len, Int.toNat_natCast, List.drop_length]
              rfl
            rw [e] at p
            exact rt_d p
        · obtain ⟨x, hx, rfl⟩ := List.mem_map.mp hd
          walk_at "al"
          exact uc_isiC I (if_pos (beq_self_eq_true _)) ⟨rfl, rfl⟩
    · have h1 := of_decide_eq_false h1
      refine ⟨_, rfl, fun _ => ?_, (fun z => nomatch z)⟩
      refine as_raise hE ?_
      walk_at "al"
      refine ⟨[.int (-1), .str "rooms"], rfl, rfl, xt_d ?_⟩
      rw [show webD rs = some (-1, ("rooms" : Str)) from if_neg (by omega)] at p
      exact p
  · walk_at "al"
    rcases hn with hk | ⟨l, rfl, hn⟩
    · refine uc_isiB ht (b := false) hk ⟨_, rfl, fun _ => ?_, (fun z => nomatch z)⟩
      refine ⟨fun _ => ?_, (fun z => nomatch z)⟩
      refine as_raise hE ?_
      walk_at "al"
      exact ⟨[.int (-1), .str "rooms"], rfl, rfl, xt_d p⟩
    · refine uc_isiB True.intro (b := true) (kit_ty (by decide +kernel)) ⟨_, rfl, (fun z => nomatch z), fun _ => ?_⟩
      walk_at "al"
      have bad : endW C_NoWeb (some (-1, ("rooms" : Str))) (.d .non) [] Φ Ψ := p
      refine iteB (fun h1 => ?_) fun h1 => ?_
      · have h1 := of_decide_eq_true h1
        walk_at "al"
        refine iteB (fun h2 => ?_) fun h2 => ?_
        · refine as_raise hE ?_
          walk_at "al"
          exact ⟨[.int (-1), .str "rooms"], rfl, rfl, xt_d p⟩
        · have h2 : decide ((l.length : Int) ≤ 12) = true := by simpa using h2
          have h2 := of_decide_eq_true h2
          obtain hn | hn | ⟨g, hg, hf⟩ := hn
          · omega
          · omega
          walk_at "al"
          refine ae_map (l := l) (fun y => .bl (g y)) rfl (gk_name rfl) (by rw [sizeLine_eq]; omega) (ai_seqT (ae_var rfl ⟨_, rfl, rfl, rfl, ?_⟩)) fun y hy acc => ?_
          · walk_at "al"
            refine uc_allP g (.lst _) ?_
            rw [hf]
            refine ⟨_, rfl, fun _ => ?_, (fun z => nomatch z)⟩
            refine as_raise hE ?_
            walk_at "al"
            exact ⟨[.int (-1), .str "rooms"], rfl, rfl, xt_d p⟩
          · walk_at "al"
            exact uc_isiC (hg y hy).1 (hg y hy).2 ⟨rfl, rfl⟩
      · have h1 := of_decide_eq_false h1
        refine ⟨_, rfl, fun _ => ?_, (fun z => nomatch z)⟩
        refine as_raise hE ?_
        walk_at "al"
        exact ⟨[.int (-1), .str "rooms"], rfl, rfl, xt_d p⟩
end
end Wd

namespace Wd
open PySem PyProof.Rows L2 Al Gx
variable [Al.TabList]
theorem sc_Web___init__ : FnScope ["self", "rooms"] ["self", "rooms"] (defScope (inClass (top 23) 0)) := ⟨rfl, rfl, rfl, by decide +kernel, rfl, by decide +kernel, by decide +kernel⟩
theorem sc_Web_rooms : FnScope ["self"] ["self"] (defScope (inClass (top 23) 1)) := ⟨rfl, rfl, rfl, by decide +kernel, rfl, by decide +kernel, by decide +kernel⟩
def webV (C CW : Addr) (rs : List Rd) : D := .ins CW ["kept"] [.tup (rs.map (Rd.d C))]
structure WebC (K : PySem.W.Frag) (CW : Addr) : Prop where
  cl : Cls K CW
  kept : NoAttr K CW "kept"
def aInitW (C CW CE : Addr) : ASp := fun xs M Φ Ψ => ∃ (rs : List Rd), xs = [.m 0, .d (.tup (rs.map (Rd.d C)))] ∧ M = [.ins CW [] []] ∧ (∀ x ∈ rs, x.Fine) ∧ rs.length ≤ 1000 ∧
  (match webD rs with | none => Φ (.d .non) [.ins CW ["kept"] [.d (.tup (rs.map (Rd.d C)))]] | some (k, s) => Ψ (CE, [("at", .int k), ("what", .str s)]) [.ins CW [] []])
theorem mono_initW {C CW CE : Addr} : Mono (aInitW C CW CE) := fun xs M Φ Φ' Ψ Ψ' h1 h2 ⟨rs, e1, e2, e3, e4, p⟩ => ⟨rs, e1, e2, e3, e4, by
  cases e : webD rs with
  | none => rw [e] at p; exact h1 _ _ p
  | some q => rw [e] at p; exact h2 _ _ p⟩
def aRoomsW (C CW : Addr) : ASp := fun xs M Φ _ => ∃ (rs : List Rd), xs = [.d (webV C CW rs)] ∧ M = [] ∧ Φ (.d (.tup (rs.map (Rd.d C)))) []
theorem mono_roomsW {C CW : Addr} : Mono (aRoomsW C CW) := fun xs M Φ Φ' Ψ Ψ' h1 _ ⟨rs, e1, e2, p⟩ => ⟨rs, e1, e2, h1 _ _ p⟩
def aLookRoom (C CW CE : Addr) : ASp := fun xs M Φ Ψ => ∃ (rs : List Rd) (x : D), xs = [.d (webV C CW rs), .d x] ∧ M = [] ∧ flatD x = true ∧
  (fromB 0 ((rs.length : Int) - 1) x = true → Φ (.d .non) []) ∧ (fromB 0 ((rs.length : Int) - 1) x = false → Ψ (CE, [("room", x)]) [])
theorem mono_lookRoom {C CW CE : Addr} : Mono (aLookRoom C CW CE) := fun xs M Φ Φ' Ψ Ψ' h1 h2 ⟨rs, x, e1, e2, e3, p, q⟩ => ⟨rs, x, e1, e2, e3, fun h => h1 _ _ (p h), fun h => h2 _ _ (q h)⟩
/-- what a room hears -/
def ears (rs : List Rd) (k : Int) : List Int := match rs[k.toNat]? with | some x => (earsOf x.h).map toI | none => []
inductive Reach (rs : List Rd) (r : Int) : Int → Prop
  | here : Reach rs r r
  | step {k j : Int} (h : Reach rs r k) (hj : j ∈ ears rs k) : Reach rs r j
/-- the ears are right -/
def Heard (rs : List Rd) : Prop := ∀ (k : Nat) (x : Rd), rs[k]? = some x → hearsB rs.length x.h = true
def aLot (C CW CE : Addr) : ASp := fun xs M Φ Ψ => ∃ (rs : List Rd) (x : D), xs = [.d (webV C CW rs), .d x] ∧ M = [] ∧ flatD x = true ∧ Heard rs ∧ rs.length ≤ 12 ∧
  (fromB 0 ((rs.length : Int) - 1) x = true → ∀ out : List Int, out.Pairwise (· < ·) → (∀ k, k ∈ out ↔ Reach rs (toI x) k) → Φ (.m 0) [.lst (out.map D.int)]) ∧ (fromB 0 ((rs.length : Int) - 1) x = false → Ψ (CE, [("room", x)]) [])
theorem mono_lot {C CW CE : Addr} : Mono (aLot C CW CE) := fun xs M Φ Φ' Ψ Ψ' h1 h2 ⟨rs, x, e1, e2, e3, e4, e5, p, q⟩ => ⟨rs, x, e1, e2, e3, e4, e5, fun h out a b => h1 _ _ (p h out a b), fun h => h2 _ _ (q h)⟩
theorem ears_in {rs : List Rd} (h : Heard rs) {k : Int} : (∀ j ∈ ears rs k, 0 ≤ j ∧ j < rs.length) ∧ (ears rs k).length ≤ 3 := by
  unfold ears
  cases e : rs[k.toNat]? with
  | none => exact ⟨by simp, by simp⟩
  | some x =>
    obtain ⟨l, el, h3, hall, _⟩ := hears_in (h _ _ e)
    dsimp only
    rw [el]
    refine ⟨fun j hj => ?_, by show (l.map toI).length ≤ 3; rw [List.length_map]; exact h3⟩
    obtain ⟨d, hd, rfl⟩ := List.mem_map.mp (show j ∈ l.map toI from hj)
    obtain ⟨i, rfl, hi⟩ := ear_in (List.all_eq_true.mp hall d hd)
    show 0 ≤ (i : Int) ∧ (i : Int) < _
    omega
/-- how far the walk of a lot is -/
structure LotI (rs : List Rd) (r : Int) (fs ws : List Int) : Prop where
  nd : fs.Nodup
  rg : ∀ k, k ∈ fs ∨ k ∈ ws → 0 ≤ k ∧ k < rs.length
  re : ∀ k, k ∈ fs ∨ k ∈ ws → Reach rs r k
  be : r ∈ fs ∨ r ∈ ws
  cl : ∀ k ∈ fs, ∀ j ∈ ears rs k, j ∈ fs ∨ j ∈ ws
theorem LotI.few {rs : List Rd} {r : Int} {fs ws : List Int} (h : LotI rs r fs ws) : fs.length ≤ rs.length := by
  have := len_le (out := fs) (ns := (List.range rs.length).map fun (i : Nat) => (i : Int)) h.nd fun k hk => by
    obtain ⟨h0, h1⟩ := h.rg k (.inl hk)
    exact List.mem_map.mpr ⟨k.toNat, List.mem_range.mpr (by omega), by omega⟩
  simpa using this
theorem LotI.done {rs : List Rd} {r : Int} {fs : List Int} (h : LotI rs r fs []) (k : Int) : k ∈ fs ↔ Reach rs r k := by
  refine ⟨fun hk => h.re k (.inl hk), fun hk => ?_⟩
  induction hk with
  | here => exact h.be.elim id (by simp)
  | step _ hj ih => exact (h.cl _ ih _ hj).elim id (by simp)
theorem LotI.old {rs : List Rd} {r k : Int} {fs ws : List Int} (h : LotI rs r fs (ws ++ [k])) (hk : k ∈ fs) : LotI rs r fs ws := by
  refine ⟨h.nd, fun j hj => h.rg j ?_, fun j hj => h.re j ?_, ?_, fun j hj i hi => ?_⟩
  · rcases hj with hj | hj
    · exact .inl hj
    · exact .inr (List.mem_append_left _ hj)
  · rcases hj with hj | hj
    · exact .inl hj
    · exact .inr (List.mem_append_left _ hj)
  · rcases h.be with hb | hb
    · exact .inl hb
    · rcases List.mem_append.mp hb with hb | hb
      · exact .inr hb
      · rw [List.mem_singleton.mp hb]; exact .inl hk
  · rcases h.cl j hj i hi with hb | hb
    · exact .inl hb
    · rcases List.mem_append.mp hb with hb | hb
      · exact .inr hb
      · rw [List.mem_singleton.mp hb]; exact .inl hk
theorem LotI.new {rs : List Rd} {r k : Int} {fs ws : List Int} (hh : Heard rs) (h : LotI rs r fs (ws ++ [k])) (hk : k ∉ fs) : LotI rs r (fs ++ [k]) (ws ++ ears rs k) := by
  have kr := h.re k (.inr (by simp))
  have kg := h.rg k (.inr (by simp))
  have mv : ∀ j, j ∈ fs ∨ j ∈ ws ++ [k] → j ∈ fs ++ [k] ∨ j ∈ ws ++ ears rs k := fun j hj => by
    rcases hj with hj | hj
    · exact .inl (List.mem_append_left _ hj)
    · rcases List.mem_append.mp hj with hj | hj
      · exact .inr (List.mem_append_left _ hj)
      · exact .inl (List.mem_append_right _ hj)
  refine ⟨List.nodup_append.mpr ⟨h.nd, by simp, fun a ha b hb e => hk ?_⟩, fun j hj => ?_, fun j hj => ?_, mv r h.be, fun j hj i hi => ?_⟩
  · rw [List.mem_singleton.mp hb] at e
    exact e ▸ ha
  · rcases hj with hj | hj
    · rcases List.mem_append.mp hj with hj | hj
      · exact h.rg j (.inl hj)
      · rw [List.mem_singleton.mp hj]; exact kg
    · rcases List.mem_append.mp hj with hj | hj
      · exact h.rg j (.inr (List.mem_append_left _ hj))
      · exact (ears_in hh).1 j hj
  · rcases hj with hj | hj
    · rcases List.mem_append.mp hj with hj | hj
      · exact h.re j (.inl hj)
      · rw [List.mem_singleton.mp hj]; exact kr
    · rcases List.mem_append.mp hj with hj | hj
      · exact h.re j (.inr (List.mem_append_left _ hj))
      · exact .step kr hj
  · rcases List.mem_append.mp hj with hj | hj
    · exact mv i (h.cl j hj i hi)
    · rw [List.mem_singleton.mp hj] at hi
      exact .inr (List.mem_append_right _ hi)
theorem strict_of {l : List Int} (h : l.Pairwise (· ≤ ·)) (nd : l.Nodup) : l.Pairwise (· < ·) := by
  induction l with
  | nil => exact .nil
  | cons a l ih =>
    obtain ⟨h1, h2⟩ := List.pairwise_cons.mp h
    obtain ⟨n1, n2⟩ := List.nodup_cons.mp nd
    exact List.pairwise_cons.mpr ⟨fun b hb => Int.lt_iff_le_and_ne.mpr ⟨h1 b hb, fun e => n1 (e ▸ hb)⟩, ih h2 n2⟩
local macro_rules | `(tactic| walk_at "alside") => `(tactic| first
  | decide
  | (dsimp only; decide)
  | exact Or.inr (by decide)
  | exact Or.inl (by decide)
  | (dsimp only; omega)
  | (unfold CDiv; omega)
  | (unfold CPow; omega)
  | (unfold CMul; omega)
  | assumption)
local macro_rules | `(tactic| walk_at "al1") => `(tactic| first
  | with_reducible refine as_asg ?_
  | with_reducible refine as_drop ?_
  | with_reducible refine as_ret ?_
  | with_reducible refine as_if ?_
  | with_reducible refine as_next ?_
  | with_reducible refine at_test ?_
  | with_reducible refine at_b ?_
  | with_reducible refine at_and ?_
  | with_reducible refine at_or ?_
  | with_reducible refine at_not ?_
  | with_reducible refine ae_op ?_
  | with_reducible refine ae_un ?_
  | with_reducible refine ae_cb ?_
  | with_reducible refine ae_if ?_
  | with_reducible refine ae_andV ?_
  | with_reducible refine ae_orV ?_
  | with_reducible refine ae_notV ?_
  | with_reducible refine ae_chain ?_
  | with_reducible refine ae_int ?_
  | with_reducible refine ae_bl ?_
  | with_reducible refine ae_non ?_
  | with_reducible refine ae_str ?_
  | with_reducible refine ae_ty ?_
  | with_reducible refine ae_adr ?_
  | with_reducible refine aa_nil ?_
  | with_reducible refine aa_cons ?_
  | with_reducible refine ag_name ?_
  | with_reducible refine ag_sub ?_
  | with_reducible refine at_yes ?_
  | ((with_reducible show AE _ _ (tVar _) _ _ _); refine ae_var rfl ?_)
  | ((with_reducible show AR _ _ (uAdd _) _ _ _ _); refine ur_addI ?_)
  | ((with_reducible show AR _ _ (uMul _) _ _ _ _); refine ur_mulI (by walk_at "alside") ?_)
  | ((with_reducible show AR _ _ (uEq _) _ _ _ _); first | refine ur_eqI ?_ | refine ur_eqS ?_ | refine ur_eqB ?_)
  | ((with_reducible show AR _ _ (uNe _) _ _ _ _); first | refine ur_neI ?_ | refine ur_neS ?_ | refine ur_neB ?_)
  | ((with_reducible show AR _ _ (rIx _) _ _ _ _); first | refine ur_ixM rfl rfl ?_ | refine ur_ixL rfl ?_ | refine ur_ixT rfl ?_ | refine ur_ixS rfl ?_)
  | ((with_reducible show AC _ _ (uLen _) _ _ _); first | refine uc_len (.tup _) ?_ | refine uc_len (.lst _) ?_ | refine uc_len (.scr _) ?_ | refine uc_len (.mm rfl) ?_)
  | ((with_reducible show AR _ _ (rI0 _) _ _ _ _); first | with_reducible refine ar_i0 ?_ | with_reducible refine ar_b0 ?_)
  | ((with_reducible show AU _ _ (rU _) _ _ _); with_reducible refine au_i ?_)
  | ((with_reducible show AR _ _ (rI _ _) _ _ _ _); refine ar_i (by walk_at "alside") ?_)
  | ((with_reducible show AR _ _ (rIxL _) _ _ _ _); first | refine ar_ixM rfl rfl ?_ | refine ar_ixL rfl ?_ | refine ar_ixS rfl ?_)
  | ((with_reducible show AR _ _ (rIxT _) _ _ _ _); refine ar_ixT rfl ?_)
  | ((with_reducible show AR _ _ rEq _ _ _ _); first | with_reducible refine ar_eqI ?_ | with_reducible refine ar_eqS ?_ | with_reducible refine ar_eqB ?_)
  | ((with_reducible show AR _ _ rNe _ _ _ _); first | with_reducible refine ar_neI ?_ | with_reducible refine ar_neS ?_ | with_reducible refine ar_neB ?_))
local macro_rules | `(tactic| walk_at "alds") => `(tactic| first
  | refine ⟨[], rfl, Nat.le_of_ble_eq_true rfl, ?_⟩
  | refine ⟨[_], rfl, Nat.le_of_ble_eq_true rfl, ?_⟩
  | refine ⟨[_, _], rfl, Nat.le_of_ble_eq_true rfl, ?_⟩
  | refine ⟨[_, _, _], rfl, Nat.le_of_ble_eq_true rfl, ?_⟩
  | refine ⟨[_, _, _, _], rfl, Nat.le_of_ble_eq_true rfl, ?_⟩
  | refine ⟨[_, _, _, _, _], rfl, Nat.le_of_ble_eq_true rfl, ?_⟩
  | refine ⟨[_, _, _, _, _, _], rfl, Nat.le_of_ble_eq_true rfl, ?_⟩
  | refine ⟨[_, _, _, _, _, _, _], rfl, Nat.le_of_ble_eq_true rfl, ?_⟩
  | refine ⟨[_, _, _, _, _, _, _, _], rfl, Nat.le_of_ble_eq_true rfl, ?_⟩
  | refine ⟨[_, _, _, _, _, _, _, _, _], rfl, Nat.le_of_ble_eq_true rfl, ?_⟩
  | refine ⟨[_, _, _, _, _, _, _, _, _, _], rfl, Nat.le_of_ble_eq_true rfl, ?_⟩
  | refine ⟨[_, _, _, _, _, _, _, _, _, _, _], rfl, Nat.le_of_ble_eq_true rfl, ?_⟩
  | refine ⟨[_, _, _, _, _, _, _, _, _, _, _, _], rfl, Nat.le_of_ble_eq_true rfl, ?_⟩)
local macro_rules | `(tactic| walk_at "alc") => `(tactic| refine ae_call0 (Ψ := fun _ _ => False) (by walk_at "almono") efits_none ?_)
local macro_rules | `(tactic| walk_at "al") => `(tactic| repeat (first | walk_at "al1" | with_reducible refine as_seq ?_ | with_reducible refine ae_tup ?_ | with_reducible walk_at "alc" | refine ⟨_, rfl, ?_⟩ | walk_at "alds" | refine ⟨_, _, _, _, _, rfl, rfl, rfl, rfl, rfl, ?_⟩))
local macro_rules | `(tactic| walk_at "alF") => `(tactic| repeat (first | walk_at "al1" | with_reducible refine as_seq ?_ | with_reducible refine ae_tup ?_ | with_reducible refine ae_lst ?_ | with_reducible walk_at "alc" | refine ⟨_, rfl, ?_⟩ | walk_at "alds" | refine ⟨_, _, _, _, _, rfl, rfl, rfl, rfl, rfl, ?_⟩))
local macro_rules | `(tactic| walk_at "alo") => `(tactic| repeat (first | walk_at "al1" | with_reducible refine ae_tup ?_ | with_reducible walk_at "alc" | refine ⟨_, rfl, ?_⟩ | walk_at "alds" | refine ⟨_, _, _, _, _, rfl, rfl, rfl, rfl, rfl, ?_⟩))
local macro_rules | `(tactic| walk_at "almono") => `(tactic| first | exact mono_whole | exact mono_from | exact mono_size | exact mono_hears | exact mono_rows | exact mono_rule | exact mono_fault)
section
variable {P : Program} {w : World} {K : PySem.W.Frag} {mg : Str → Option Value} {base : Heap} {C_Room C_Web C_NoWeb C_NoRoom : Addr}
theorem ok_initW {kws : List KwE} (D : MkDef K mg C_Web "Web" "Web.__init__" (inClass (top 23) 0) ["self", "rooms"] kws) (W : WebC K C_Web) (G_look_rooms : FnAt P w K mg base (L2.CX P w) 7 "look_rooms" ["rooms"] (aLook K C_Room C_NoWeb)) :
    MkAt P w K mg base (L2.CX P w) 8 C_Web "Web" ["self", "rooms"] (aInitW C_Room C_Web C_NoWeb) kws := by
  refine mkatX D sc_Web___init__ (fun xs M Φ Ψ h => ?_) (fun f cdv A outer s H E hr => ⟨_, (pss_cons (ps_expr (pe_fn G_look_rooms (hr.mono (by decide)) rfl (passes_call (takes_of rfl rfl rfl rfl) (fun _ _ _ _ h => h)) (pa_cons (pv 1) pa_nil))) (pss_one (ps_fld (pv 0) (pv 1) rfl))), fun B xs M Φ Ψ hB h hE => ?_⟩)
  · obtain ⟨rs, rfl, _⟩ := h
    rfl
  · obtain ⟨rs, rfl, rfl, hf, hbig, p⟩ := h
    walk_at "al"
    refine ae_call0 (Ψ := XT 1 Ψ) mono_look hE ?_
    walk_at "al"
    refine sent0 (ys := [.tup (rs.map (Rd.d C_Room))]) mono_look ?_
    refine .inl ⟨rs, rfl, rfl, hf, hbig, ?_⟩
    cases e : webD rs with
    | none =>
      rw [e] at p
      refine ⟨rfl, _, rfl, ?_⟩
      refine as_fld (ae_var rfl (ae_var rfl ⟨0, C_Web, [], [], rfl, rfl, W.cl, W.kept, by simp, by decide, ?_⟩))
      exact Or.inl ⟨1, .d .non, Nat.le_refl _, .dat, by simp [MO.below, AV.below], p⟩
    | some q =>
      rw [e] at p
      exact ⟨rfl, 1, Nat.le_refl _, by simp [MO.below], p⟩
theorem ok_roomsW (D : MethDef K C_Web "rooms" "Web.rooms" (inClass (top 23) 1) ["self"]) (W : WebC K C_Web) : MethAt P w K mg base CX0 1 C_Web "rooms" ["self"] (aRoomsW C_Room C_Web) := by
  refine mtat D sc_Web_rooms (fun xs M Φ Ψ h => ?_) (fun f cdv A outer s H E hr => ⟨_, (pss_one (ps_ret (pe_fldK K (pv 0) (by rfl)))), fun B xs M Φ Ψ hB h => ?_⟩)
  · obtain ⟨rs, rfl, _⟩ := h
    rfl
  · obtain ⟨rs, rfl, rfl, p⟩ := h
    walk_at "al"
    exact ae_fld (ae_var rfl ⟨C_Web, ["kept"], _, _, rfl, W.cl, W.kept, rfl, rt_d p⟩)
end
end Wd

/-! Room(..) -/
namespace Wd
open PySem PyProof.Rows L2 Al Gx
variable [Al.TabList]
theorem sc_Room___init__ : FnScope ["self", "hears", "size", "first", "rule"] ["self", "hears", "size", "first", "rule"] (defScope (inClass (top 11) 0)) := ⟨rfl, rfl, rfl, by decide +kernel, rfl, by decide +kernel, by decide +kernel⟩
abbrev sInit : Stmt := (inClass (top 11) 0)
abbrev psI : List Str := ["self", "hears", "size", "first", "rule"]
/-- the keyword-only defaults: 2, 0, (0,) at T2 -/
abbrev kwI (T2 : Addr) : List (Str × V) := [("size", .int 2), ("first", .int 0), ("rule", .ref T2)]
def aInitR (C : Addr) : ASp := fun xs M Φ _ => ∃ h s f r : D, xs = [.m 0, .d h, .d s, .d f, .d r] ∧ M = [.ins C [] []] ∧ Φ (.d .non) [.ins C nms [.d h, .d s, .d f, .d r]]
theorem mono_initR {C : Addr} : Mono (aInitR C) := fun xs M Φ Φ' Ψ Ψ' h1 _ ⟨h, s, f, r, e1, e2, p⟩ => ⟨h, s, f, r, e1, e2, h1 _ _ p⟩
section
variable {K : PySem.W.Frag} {f T1 T2 : Addr} {fd : FuncData}
abbrev FI (K : PySem.W.Frag) (T1 T2 f : Addr) (fd : FuncData) : Prop := FunD K "__init__" "Room.__init__" (defArgs sInit) (defBody sInit) (defScope sInit) [.ref T1] (kwI T2) f fd
abbrev KB (K : PySem.W.Frag) (fd : FuncData) (n : Nat) (ks : List Str) (ix : List Nat) (T1 : Addr) (mv : List V) : Prop := ∃ its mz : List Value, KBn K fd psI n ks (fun us ws => pick ix us its mz ws) (fun vs zs => pick ix vs [.ref T1] mv zs)
theorem kb1 (F : FI K T1 T2 f fd) : KB K fd 2 ["size", "first", "rule"] [0, 1, 3, 4, 5] T1 [] :=
  F.kbinds 2 ["size", "first", "rule"] [] (pick [0, 1, 3, 4, 5]) (by simp) (by simp) (by simp) (pick_rel _) fun T D doc pm an cdv ct us its mv ws h1 h2 h3 h4 =>
    match us, its, mv, ws, h1, h2, h3, h4 with
    | [_, _], [_], [], [_, _, _], _, _, _, _ => ⟨_, rfl, rfl⟩
end
/-- how Room(..) is made: its class, its __init__, the defaults -/
structure RoomM (K : PySem.W.Frag) (C T1 T2 fI : Addr) (fdI : FuncData) : Prop where
  mk_ : Mk K C fI
  fi : FI K T1 T2 fI fdI
  t1 : ∀ W, RD K W (.tup []) (.ref T1)
  t2 : ∀ W, RD K W (.tup [.int 0]) (.ref T2)
section
variable {P : Program} {w : World} {K : PySem.W.Frag} {mg : Str → Option Value} {base : Heap} {C : Addr}
theorem ok_initR {f T1 T2 : Addr} {fd : FuncData} (F : FI K T1 T2 f fd) (T : RoomC K C) : FnOk P w K mg base CX0 1 f fd psI (conc K (aInitR C)) := by
  refine fn_alD F sc_Room___init__ (fun xs M Φ Ψ h => ?_) (fun cdv A outer s H E hr => ⟨_, (pss_cons (ps_fld (pv 0) (pv 1) rfl) (pss_cons (ps_fld (pv 0) (pv 2) rfl) (pss_cons (ps_fld (pv 0) (pv 3) rfl) (pss_one (ps_fld (pv 0) (pv 4) rfl))))), fun B xs M Φ Ψ hB h _ => ?_⟩)
  · obtain ⟨h, s, f, r, rfl, _⟩ := h
    rfl
  · obtain ⟨h, s, f, r, rfl, rfl, k⟩ := h
    refine as_seq (as_fld (ae_var rfl (ae_var rfl ⟨0, C, _, _, rfl, rfl, T.cl, T.hears, by decide +kernel, by decide, ?_⟩)))
    refine as_seq (as_fld (ae_var rfl (ae_var rfl ⟨0, C, _, _, rfl, rfl, T.cl, T.size, by decide +kernel, by decide, ?_⟩)))
    refine as_seq (as_fld (ae_var rfl (ae_var rfl ⟨0, C, _, _, rfl, rfl, T.cl, T.first, by decide +kernel, by decide, ?_⟩)))
    refine as_fld (ae_var rfl (ae_var rfl ⟨0, C, _, _, rfl, rfl, T.cl, T.rule, by decide +kernel, by decide, ?_⟩))
    exact Or.inl ⟨1, .d .non, Nat.le_refl _, .dat, by simp [MO.below, AV.below], k⟩
end
theorem sent_room {C : Addr} {M : List MO} {Φ : AV → List MO → Prop} {Ψ : Exc → List MO → Prop} {h s f r : D} (hM : ∀ o ∈ M, o.below M.length = true) (k : Φ (.d (Rd.d C ⟨h, s, f, r⟩)) M) : Sent (aInitR C) (.m M.length :: [AV.d h, .d s, .d f, .d r]) (M ++ [.ins C [] []]) (MadeOk C M.length Φ) Ψ :=
  sentI (ys := [h, s, f, r]) mono_initR hM ⟨h, s, f, r, rfl, rfl, rfl, nms, [h, s, f, r], rfl, k⟩
end Wd

/-! rooms with tables -/
namespace Wd
open PySem PyProof.Rows L2 Al Gx
variable [Al.TabList]
/-- a drawn room -/
structure Rm where
  ears : List Int
  size : Int
  first : Int
  table : List Int
def Rm.t (x : Rm) : D := .tup [.tup (x.ears.map D.int), .int x.size, .int x.first, .tup (x.table.map D.int)]
theorem all_flat (l : List Int) : (l.map D.int).all flatD = true := by simp [flatD]
def Rm.rd (x : Rm) : Rd := ⟨.tup (x.ears.map D.int), .int x.size, .int x.first, .tup (x.table.map D.int)⟩
theorem Rm.fine (x : Rm) : x.rd.Fine := ⟨all_flat _, rfl, rfl, .inl (all_flat _)⟩
theorem toI_map (l : List Int) : (l.map D.int).map toI = l := by rw [List.map_map]; simp [Function.comp_def, toI]
theorem fine_ok (rms : List Rm) : ∀ x ∈ rms.map Rm.rd, x.Fine := fun x hx => by
  obtain ⟨y, hy, rfl⟩ := List.mem_map.mp hx
  exact y.fine
/-- a number, written -/
def strI (i : Int) : Str := toString i
def numText (ns : List Int) : Str := Txt.join " " (ns.map strI)
/-- a room's line -/
def lineR (x : Rm) : Str := "room " ++ strI x.size ++ " " ++ strI x.first ++ (if x.ears = [] then ("" : Str) else (" hears " : Str) ++ numText x.ears) ++ " tells " ++ numText x.table
def webText (rms : List Rm) : Str := Txt.join "\n" (rms.map lineR)
end Wd

namespace Wd
open PySem PyProof.Rows L2 Al Gx
variable [Al.TabList]
abbrev sBag : Stmt := (top 25)
abbrev sTake : Stmt := (top 26)
def bag (g x c : Int) : MO := .lst [.int g, .int x, .int c]
def aBag : ASp := fun xs M Φ _ => ∃ (ns : List Int) (k : Int), xs = [.d (.scr (ns.map D.int)), .d (.int k)] ∧ M = [] ∧ 0 ≤ k ∧ k < 5 ∧ ns.length ≤ 100 ∧ ∀ g x, Φ (.m 0) [bag g x 0]
theorem mono_bag : Mono aBag := fun xs M Φ Φ' Ψ Ψ' h1 _ ⟨ns, k, e1, e2, a, b, c, p⟩ => ⟨ns, k, e1, e2, a, b, c, fun g x => h1 _ _ (p g x)⟩
def aTake : ASp := fun xs M Φ _ => ∃ (g x c n : Int), xs = [.m 0, .d (.int n)] ∧ M = [bag g x c] ∧ 0 < n ∧ n < 1000000 ∧ ∀ (r g' x' c' : Int), 0 ≤ r → r < n → Φ (.d (.int r)) [bag g' x' c']
theorem mono_take : Mono aTake := fun xs M Φ Φ' Ψ Ψ' h1 _ ⟨g, x, c, n, e1, e2, a, b, p⟩ => ⟨g, x, c, n, e1, e2, a, b, fun r g' x' c' h h' => h1 _ _ (p r g' x' c' h h')⟩
theorem scBag : FnScope ["_law_script", "_law_at", "_law_cell", "_law_great", "_law_primes"] ["_law_script", "_law_at"] (defScope sBag) := ⟨rfl, rfl, rfl, by decide +kernel, rfl, by decide +kernel, by decide +kernel⟩
theorem scTake : FnScope ["_law_bag_here", "_law_many", "_law_digit"] ["_law_bag_here", "_law_many"] (defScope sTake) := ⟨rfl, rfl, rfl, by decide +kernel, rfl, by decide +kernel, by decide +kernel⟩
local macro_rules | `(tactic| walk_at "alside") => `(tactic| first
  | decide
  | (dsimp only; decide)
  | exact Or.inr (by decide)
  | exact Or.inl (by decide)
  | (dsimp only; omega)
  | (unfold CDiv; omega)
  | (unfold CPow; omega)
  | (unfold CMul; omega)
  | assumption)
local macro_rules | `(tactic| walk_at "al1") => `(tactic| first
  | with_reducible refine as_asg ?_
  | with_reducible refine as_drop ?_
  | with_reducible refine as_ret ?_
  | with_reducible refine as_if ?_
  | with_reducible refine as_next ?_
  | with_reducible refine at_test ?_
  | with_reducible refine at_b ?_
  | with_reducible refine at_and ?_
  | with_reducible refine at_or ?_
  | with_reducible refine at_not ?_
  | with_reducible refine ae_op ?_
  | with_reducible refine ae_un ?_
  | with_reducible refine ae_cb ?_
  | with_reducible refine ae_if ?_
  | with_reducible refine ae_andV ?_
  | with_reducible refine ae_orV ?_
  | with_reducible refine ae_notV ?_
  | with_reducible refine ae_chain ?_
  | with_reducible refine ae_int ?_
  | with_reducible refine ae_bl ?_
  | with_reducible refine ae_non ?_
  | with_reducible refine ae_str ?_
  | with_reducible refine ae_ty ?_
  | with_reducible refine ae_adr ?_
  | with_reducible refine aa_nil ?_
  | with_reducible refine aa_cons ?_
  | with_reducible refine ag_name ?_
  | with_reducible refine ag_sub ?_
  | with_reducible refine at_yes ?_
  | ((with_reducible show AE _ _ (tVar _) _ _ _); refine ae_var rfl ?_)
  | ((with_reducible show AR _ _ (uAdd _) _ _ _ _); refine ur_addI ?_)
  | ((with_reducible show AR _ _ (uMul _) _ _ _ _); refine ur_mulI (by walk_at "alside") ?_)
  | ((with_reducible show AR _ _ (uEq _) _ _ _ _); first | refine ur_eqI ?_ | refine ur_eqS ?_ | refine ur_eqB ?_)
  | ((with_reducible show AR _ _ (uNe _) _ _ _ _); first | refine ur_neI ?_ | refine ur_neS ?_ | refine ur_neB ?_)
  | ((with_reducible show AR _ _ (rIx _) _ _ _ _); first | refine ur_ixM rfl rfl ?_ | refine ur_ixL rfl ?_ | refine ur_ixT rfl ?_ | refine ur_ixS rfl ?_)
  | ((with_reducible show AC _ _ (uLen _) _ _ _); first | refine uc_len (.tup _) ?_ | refine uc_len (.lst _) ?_ | refine uc_len (.scr _) ?_ | refine uc_len (.mm rfl) ?_)
  | ((with_reducible show AR _ _ (rI0 _) _ _ _ _); first | with_reducible refine ar_i0 ?_ | with_reducible refine ar_b0 ?_)
  | ((with_reducible show AU _ _ (rU _) _ _ _); with_reducible refine au_i ?_)
  | ((with_reducible show AR _ _ (rI _ _) _ _ _ _); refine ar_i (by walk_at "alside") ?_)
  | ((with_reducible show AR _ _ (rIxL _) _ _ _ _); first | refine ar_ixM rfl rfl ?_ | refine ar_ixL rfl ?_ | refine ar_ixS rfl ?_)
  | ((with_reducible show AR _ _ (rIxT _) _ _ _ _); refine ar_ixT rfl ?_)
  | ((with_reducible show AR _ _ rEq _ _ _ _); first | with_reducible refine ar_eqI ?_ | with_reducible refine ar_eqS ?_ | with_reducible refine ar_eqB ?_)
  | ((with_reducible show AR _ _ rNe _ _ _ _); first | with_reducible refine ar_neI ?_ | with_reducible refine ar_neS ?_ | with_reducible refine ar_neB ?_))
local macro_rules | `(tactic| walk_at "alds") => `(tactic| first
  | refine ⟨[], rfl, Nat.le_of_ble_eq_true rfl, ?_⟩
  | refine ⟨[_], rfl, Nat.le_of_ble_eq_true rfl, ?_⟩
  | refine ⟨[_, _], rfl, Nat.le_of_ble_eq_true rfl, ?_⟩
  | refine ⟨[_, _, _], rfl, Nat.le_of_ble_eq_true rfl, ?_⟩
  | refine ⟨[_, _, _, _], rfl, Nat.le_of_ble_eq_true rfl, ?_⟩
  | refine ⟨[_, _, _, _, _], rfl, Nat.le_of_ble_eq_true rfl, ?_⟩
  | refine ⟨[_, _, _, _, _, _], rfl, Nat.le_of_ble_eq_true rfl, ?_⟩
  | refine ⟨[_, _, _, _, _, _, _], rfl, Nat.le_of_ble_eq_true rfl, ?_⟩
  | refine ⟨[_, _, _, _, _, _, _, _], rfl, Nat.le_of_ble_eq_true rfl, ?_⟩
  | refine ⟨[_, _, _, _, _, _, _, _, _], rfl, Nat.le_of_ble_eq_true rfl, ?_⟩
  | refine ⟨[_, _, _, _, _, _, _, _, _, _], rfl, Nat.le_of_ble_eq_true rfl, ?_⟩
  | refine ⟨[_, _, _, _, _, _, _, _, _, _, _], rfl, Nat.le_of_ble_eq_true rfl, ?_⟩
  | refine ⟨[_, _, _, _, _, _, _, _, _, _, _, _], rfl, Nat.le_of_ble_eq_true rfl, ?_⟩)
local macro_rules | `(tactic| walk_at "alc") => `(tactic| refine ae_call0 (Ψ := fun _ _ => False) (by walk_at "almono") efits_none ?_)
local macro_rules | `(tactic| walk_at "al") => `(tactic| repeat (first | walk_at "al1" | with_reducible refine as_seq ?_ | with_reducible refine ae_tup ?_ | with_reducible walk_at "alc" | refine ⟨_, rfl, ?_⟩ | walk_at "alds" | refine ⟨_, _, _, _, _, rfl, rfl, rfl, rfl, rfl, ?_⟩))
local macro_rules | `(tactic| walk_at "alF") => `(tactic| repeat (first | walk_at "al1" | with_reducible refine as_seq ?_ | with_reducible refine ae_tup ?_ | with_reducible refine ae_lst ?_ | with_reducible walk_at "alc" | refine ⟨_, rfl, ?_⟩ | walk_at "alds" | refine ⟨_, _, _, _, _, rfl, rfl, rfl, rfl, rfl, ?_⟩))
local macro_rules | `(tactic| walk_at "alo") => `(tactic| repeat (first | walk_at "al1" | with_reducible refine ae_tup ?_ | with_reducible walk_at "alc" | refine ⟨_, rfl, ?_⟩ | walk_at "alds" | refine ⟨_, _, _, _, _, rfl, rfl, rfl, rfl, rfl, ?_⟩))
section
variable {P : Program} {w : World} {K : PySem.W.Frag} {mg : Str → Option Value} {base : Heap}
theorem rt1 {Φ : AV → List MO → Prop} {d : D} {l l' : List D} (h : Φ (.d d) [.lst l']) : RT 1 Φ (.d d) [.lst l'] := Or.inl ⟨1, .d d, Nat.le_refl _, .dat, by simp [MO.below], h⟩
theorem ok_take {f : Addr} {fd : FuncData} (F : Fun K "_law_take" "_law_take" sTake f fd) : FnOk P w K mg base CX0 1 f fd ["_law_bag_here", "_law_many"] (conc K aTake) := by
  refine fn_al F scTake (fun xs M Φ Ψ h => ?_) (fun cdv A outer s H E hr => ⟨_, pss_cons (ps_if (pt_cmpR op_gt (pe_ix ix_list (pv 0) pe_int (fun _ _ => rfl)) pe_int (nomark _))
      (pss_cons (ps_set (i := 2) scTake.nd rfl (Or.inl rfl) (pe_op op_mod (pe_ix ix_list (pv 0) pe_int (fun _ _ => rfl)) (pv 1)))
        (pss_cons (ps_asg (pe_op op_fdiv (pe_ix ix_list (pv 0) pe_int (fun _ _ => rfl)) (pv 1)) (pg_sub (pv 0) pe_int set_list)) (pss_one (ps_ret (pv 2))))) pss_nil)
      (pss_cons (ps_asg (pe_op op_add (pe_ix ix_list (pv 0) pe_int (fun _ _ => rfl)) pe_int) (pg_sub (pv 0) pe_int set_list))
        (pss_cons (ps_asg (pe_op op_mod (pe_op op_add (pe_op op_add (pe_op op_mul (pe_ix ix_list (pv 0) pe_int (fun _ _ => rfl)) pe_int) (pe_op op_mul pe_int (pe_ix ix_list (pv 0) pe_int (fun _ _ => rfl)))) pe_int) pe_int) (pg_sub (pv 0) pe_int set_list))
          (pss_one (ps_ret (pe_op op_mod (pe_op op_mod (pe_op op_pow (pe_op op_fdiv (pe_ix ix_list (pv 0) pe_int (fun _ _ => rfl)) pe_int) pe_int) pe_int) (pv 1)))))), fun B xs M Φ Ψ hB h => ?_⟩)
  · obtain ⟨g, x, c, n, rfl, _⟩ := h
    rfl
  · obtain ⟨g, x, c, n, rfl, rfl, hn, hn2, k⟩ := h
    walk_at "al"
    refine ⟨fun hg => ?_, fun hg => ?_⟩
    · walk_at "al"
      exact rt1 (l := []) (k _ _ _ _ (Int.emod_nonneg _ (by omega)) (Int.emod_lt_of_pos _ hn))
    · walk_at "al"
      exact rt1 (l := []) (k _ _ _ _ (Int.emod_nonneg _ (by omega)) (Int.emod_lt_of_pos _ hn))
theorem prime_at {k : Int} (h0 : 0 ≤ k) (h : k < 5) (l : List D) (hl : l = [.int 2147483629, .int 2147483587, .int 2147483579, .int 2147483563, .int 2147483549, .int 2147483543, .int 2147483497, .int 2147483489]) : ∃ p, 0 < p ∧ atI l (k % 8) = some (.int p) := by
  subst hl
  obtain rfl | rfl | rfl | rfl | rfl : k = 0 ∨ k = 1 ∨ k = 2 ∨ k = 3 ∨ k = 4 := by omega
  all_goals exact ⟨_, by decide, rfl⟩
theorem atI_ints {ns : List Int} {k : Int} (h0 : 0 ≤ k) (h : k < (ns.length : Int)) : ∃ i, atI (ns.map D.int) k = some (.int i) := by
  have hk : k.toNat < ns.length := by omega
  refine ⟨ns[k.toNat], ?_⟩
  unfold atI ixN
  rw [List.length_map, if_pos h0, if_pos h, Option.bind_some, List.getElem?_map, List.getElem?_eq_getElem hk]
  rfl
theorem ok_bag {f : Addr} {fd : FuncData} (F : Fun K "_law_bag" "_law_bag" sBag f fd) (T : Bt mg) : FnOk P w K mg base CX0 1 f fd ["_law_script", "_law_at"] (conc K aBag) := by
  refine fn_al F scBag (fun xs M Φ Ψ h => ?_) (fun cdv A outer s H E hr => ⟨_, pss_cons (ps_set (i := 2) scBag.nd rfl (Or.inl rfl) pe_int)
      (pss_cons (ps_if (pt_cmpR op_lt (pv 1) (pe_callB call_len_seq (by rfl) T.len PySem.boot_len (pa_cons (pv 0) pa_nil)) (nomark _)) (pss_one (ps_set (i := 2) scBag.nd rfl (Or.inl rfl) (pe_ix ix_list (pv 0) (pv 1) (fun _ _ => rfl)))) pss_nil)
      (pss_cons (ps_set (i := 3) scBag.nd rfl (Or.inl rfl) pe_int)
      (pss_cons (ps_if (pt_cmpR op_ge (pe_callB call_abs (by rfl) T.abs (by decide +kernel) (pa_cons (pv 2) pa_nil)) (pe_op op_pow pe_int pe_int) (nomark _)) (pss_one (ps_set (i := 3) scBag.nd rfl (Or.inl rfl) (pe_callB call_abs (by rfl) T.abs (by decide +kernel) (pa_cons (pv 2) pa_nil)))) pss_nil)
      (pss_cons (ps_set (i := 4) scBag.nd rfl (Or.inl rfl) (pe_lst (pa_cons pe_int (pa_cons pe_int (pa_cons pe_int (pa_cons pe_int (pa_cons pe_int (pa_cons pe_int (pa_cons pe_int (pa_cons pe_int pa_nil))))))))))
      (pss_one (ps_ret (pe_lst (pa_cons (pv 3) (pa_cons (pe_op op_mod (pe_op op_pow (pe_op op_add (pe_op op_add (pe_op op_mod (pv 2) pe_int) (pe_op op_mul pe_int (pv 1))) pe_int) pe_int) (pe_ix ix_list (pv 4) (pe_op op_mod (pv 1) pe_int) (fun _ _ => rfl))) (pa_cons pe_int pa_nil)))))))))), fun B xs M Φ Ψ hB h => ?_⟩)
  · obtain ⟨ns, k, rfl, _⟩ := h
    rfl
  · obtain ⟨ns, k, rfl, rfl, h0, h5, hn, q⟩ := h
    refine as_seq ?_
    walk_at "alo"
    refine as_cut (fun σ' M' => ∃ cell : Int, σ' = [some (.d (.scr (ns.map D.int))), some (.d (.int k)), some (.d (.int cell)), none, none] ∧ M' = []) ?_ ?_
    · walk_at "alo"
      refine ac_len (.scr _) ?_
      walk_at "alo"
      rw [List.length_map]
      refine ⟨fun hb => ?_, fun hb => ?_⟩
      · obtain ⟨i, hi⟩ := atI_ints h0 (of_decide_eq_true hb)
        refine as_asg (ae_op (ae_var rfl (ae_var rfl (ar_ixS hi ?_))))
        walk_at "alo"
        exact rfl
      · exact as_next ⟨_, rfl, rfl⟩
    · rintro σ' M' ⟨cell, rfl, rfl⟩
      refine as_seq ?_
      walk_at "alo"
      refine as_cut (fun σ' M' => ∃ great : Int, σ' = [some (.d (.scr (ns.map D.int))), some (.d (.int k)), some (.d (.int cell)), some (.d (.int great)), none] ∧ M' = []) ?_ ?_
      · walk_at "alo"
        refine ac_abs ?_
        walk_at "alo"
        refine ⟨fun hb => ?_, fun hb => ?_⟩
        · walk_at "alo"
          refine ac_abs ?_
          walk_at "alo"
          exact rfl
        · exact as_next ⟨_, rfl, rfl⟩
      · rintro σ' M' ⟨great, rfl, rfl⟩
        walk_at "al"
        refine ae_lst ?_
        walk_at "al"
        refine ae_lstM ?_
        walk_at "al"
        obtain ⟨p, hp, ha⟩ := prime_at h0 h5 _ rfl
        refine ar_ixL ha (ar_i hp ?_)
        walk_at "al"
        exact Or.inl ⟨1, .m 0, Nat.zero_le _, .low (by decide), by simp [MO.below], q _ _⟩
theorem at_take (D : DefAt K mg "_law_take" sTake ["_law_bag_here", "_law_many"]) : FnAt P w K mg base CX0 1 "_law_take" ["_law_bag_here", "_law_many"] aTake := by
  obtain ⟨f, fd, F, hm, hb⟩ := D.ex
  exact ⟨f, fd, ok_take F, hm, F.kp, hb⟩
theorem at_bag (D : DefAt K mg "_law_bag" sBag ["_law_script", "_law_at"]) (T : Bt mg) : FnAt P w K mg base CX0 1 "_law_bag" ["_law_script", "_law_at"] aBag := by
  obtain ⟨f, fd, F, hm, hb⟩ := D.ex
  exact ⟨f, fd, ok_bag F T, hm, F.kp, hb⟩
end
end Wd

namespace Wd
open PySem PyProof.Rows L2 Al Gx
variable [Al.TabList]
theorem sc__law_unlike : FnScope ["_law_bag_here", "_law_many", "_law_count", "_law_left", "_law_found", "_law_turn"] ["_law_bag_here", "_law_many", "_law_count"] (defScope (top 27)) := ⟨rfl, rfl, rfl, by decide +kernel, rfl, by decide +kernel, by decide +kernel⟩
def aUnlike : ASp := fun xs M Φ _ => ∃ (g x c many count : Int), xs = [.m 0, .d (.int many), .d (.int count)] ∧ M = [bag g x c] ∧ 0 ≤ many ∧ many ≤ 1000 ∧ 0 ≤ count ∧ count ≤ 1000 ∧
  ∀ (l : List Int) (g' x' c' : Int), l.Nodup → (∀ k ∈ l, 0 ≤ k ∧ k < many) → (l.length : Int) = (if count < many then count else many) → Φ (.d (.lst (l.map D.int))) [bag g' x' c']
theorem mono_unlike : Mono aUnlike := fun xs M Φ Φ' Ψ Ψ' h1 _ ⟨g, x, c, n, m, e1, e2, a1, a2, a3, a4, p⟩ => ⟨g, x, c, n, m, e1, e2, a1, a2, a3, a4, fun l g' x' c' b1 b2 b3 => h1 _ _ (p l g' x' c' b1 b2 b3)⟩
theorem take_sent {M : List MO} {k : Nat} {g x c n : Int} {Φ : AV → List MO → Prop} {Ψ : Exc → List MO → Prop} (hk : M[k]? = some (bag g x c)) (h0 : 0 < n) (h1 : n < 1000000) (q : ∀ r g' x' c' : Int, 0 ≤ r → r < n → Φ (.d (.int r)) (M.set k (bag g' x' c'))) : Sent aTake [.m k, .d (.int n)] M Φ Ψ :=
  sent1 (xs' := [.m 0, .d (.int n)]) mono_take hk rfl rfl ⟨g, x, c, n, rfl, rfl, h0, h1, fun r g' x' c' h h' => ⟨_, _, rfl, rfl, q r g' x' c' h h'⟩⟩
theorem unlike_sent {M : List MO} {k : Nat} {g x c n m : Int} {Φ : AV → List MO → Prop} {Ψ : Exc → List MO → Prop} (hk : M[k]? = some (bag g x c)) (h0 : 0 ≤ n) (h1 : n ≤ 1000) (h2 : 0 ≤ m) (h3 : m ≤ 1000)
    (q : ∀ (l : List Int) (g' x' c' : Int), l.Nodup → (∀ k ∈ l, 0 ≤ k ∧ k < n) → (l.length : Int) = (if m < n then m else n) → Φ (.d (.lst (l.map D.int))) (M.set k (bag g' x' c'))) : Sent aUnlike [.m k, .d (.int n), .d (.int m)] M Φ Ψ :=
  sent1 (xs' := [.m 0, .d (.int n), .d (.int m)]) mono_unlike hk rfl rfl ⟨g, x, c, n, m, rfl, rfl, h0, h1, h2, h3, fun l g' x' c' a1 a2 a3 => ⟨_, _, rfl, rfl, q l g' x' c' a1 a2 a3⟩⟩
theorem perm_erase {α : Type} : ∀ (l : List α) (i : Nat) (y : α), l[i]? = some y → (y :: l.eraseIdx i).Perm l
  | [], i, y, h => by simp at h
  | a :: l, 0, y, h => by simp at h; subst h; exact .refl _
  | a :: l, i + 1, y, h => (List.Perm.swap a y _).trans ((perm_erase l i y (by simpa using h)).cons a)
theorem seqIndex_nat {r : Int} {n : Nat} (h0 : 0 ≤ r) (h : r < n) : seqIndex? r n = some r.toNat := by
  simp [seqIndex?, show ¬ r < 0 by omega, h0, h]
local macro_rules | `(tactic| walk_at "alside") => `(tactic| first
  | decide
  | (dsimp only; decide)
  | exact Or.inr (by decide)
  | exact Or.inl (by decide)
  | (dsimp only; omega)
  | (unfold CDiv; omega)
  | (unfold CPow; omega)
  | (unfold CMul; omega)
  | assumption)
local macro_rules | `(tactic| walk_at "al1") => `(tactic| first
  | with_reducible refine as_asg ?_
  | with_reducible refine as_drop ?_
  | with_reducible refine as_ret ?_
  | with_reducible refine as_if ?_
  | with_reducible refine as_next ?_
  | with_reducible refine at_test ?_
  | with_reducible refine at_b ?_
  | with_reducible refine at_and ?_
  | with_reducible refine at_or ?_
  | with_reducible refine at_not ?_
  | with_reducible refine ae_op ?_
  | with_reducible refine ae_un ?_
  | with_reducible refine ae_cb ?_
  | with_reducible refine ae_if ?_
  | with_reducible refine ae_andV ?_
  | with_reducible refine ae_orV ?_
  | with_reducible refine ae_notV ?_
  | with_reducible refine ae_chain ?_
  | with_reducible refine ae_int ?_
  | with_reducible refine ae_bl ?_
  | with_reducible refine ae_non ?_
  | with_reducible refine ae_str ?_
  | with_reducible refine ae_ty ?_
  | with_reducible refine ae_adr ?_
  | with_reducible refine aa_nil ?_
  | with_reducible refine aa_cons ?_
  | with_reducible refine ag_name ?_
  | with_reducible refine ag_sub ?_
  | with_reducible refine at_yes ?_
  | ((with_reducible show AE _ _ (tVar _) _ _ _); refine ae_var rfl ?_)
  | ((with_reducible show AR _ _ (uAdd _) _ _ _ _); refine ur_addI ?_)
  | ((with_reducible show AR _ _ (uMul _) _ _ _ _); refine ur_mulI (by walk_at "alside") ?_)
  | ((with_reducible show AR _ _ (uEq _) _ _ _ _); first | refine ur_eqI ?_ | refine ur_eqS ?_ | refine ur_eqB ?_)
  | ((with_reducible show AR _ _ (uNe _) _ _ _ _); first | refine ur_neI ?_ | refine ur_neS ?_ | refine ur_neB ?_)
  | ((with_reducible show AR _ _ (rIx _) _ _ _ _); first | refine ur_ixM rfl rfl ?_ | refine ur_ixL rfl ?_ | refine ur_ixT rfl ?_ | refine ur_ixS rfl ?_)
  | ((with_reducible show AC _ _ (uLen _) _ _ _); first | refine uc_len (.tup _) ?_ | refine uc_len (.lst _) ?_ | refine uc_len (.scr _) ?_ | refine uc_len (.mm rfl) ?_)
  | ((with_reducible show AR _ _ (rI0 _) _ _ _ _); first | with_reducible refine ar_i0 ?_ | with_reducible refine ar_b0 ?_)
  | ((with_reducible show AU _ _ (rU _) _ _ _); with_reducible refine au_i ?_)
  | ((with_reducible show AR _ _ (rI _ _) _ _ _ _); refine ar_i (by walk_at "alside") ?_)
  | ((with_reducible show AR _ _ (rIxL _) _ _ _ _); first | refine ar_ixM rfl rfl ?_ | refine ar_ixL rfl ?_ | refine ar_ixS rfl ?_)
  | ((with_reducible show AR _ _ (rIxT _) _ _ _ _); refine ar_ixT rfl ?_)
  | ((with_reducible show AR _ _ rEq _ _ _ _); first | with_reducible refine ar_eqI ?_ | with_reducible refine ar_eqS ?_ | with_reducible refine ar_eqB ?_)
  | ((with_reducible show AR _ _ rNe _ _ _ _); first | with_reducible refine ar_neI ?_ | with_reducible refine ar_neS ?_ | with_reducible refine ar_neB ?_))
local macro_rules | `(tactic| walk_at "alds") => `(tactic| first
  | refine ⟨[], rfl, Nat.le_of_ble_eq_true rfl, ?_⟩
  | refine ⟨[_], rfl, Nat.le_of_ble_eq_true rfl, ?_⟩
  | refine ⟨[_, _], rfl, Nat.le_of_ble_eq_true rfl, ?_⟩
  | refine ⟨[_, _, _], rfl, Nat.le_of_ble_eq_true rfl, ?_⟩
  | refine ⟨[_, _, _, _], rfl, Nat.le_of_ble_eq_true rfl, ?_⟩
  | refine ⟨[_, _, _, _, _], rfl, Nat.le_of_ble_eq_true rfl, ?_⟩
  | refine ⟨[_, _, _, _, _, _], rfl, Nat.le_of_ble_eq_true rfl, ?_⟩
  | refine ⟨[_, _, _, _, _, _, _], rfl, Nat.le_of_ble_eq_true rfl, ?_⟩
  | refine ⟨[_, _, _, _, _, _, _, _], rfl, Nat.le_of_ble_eq_true rfl, ?_⟩
  | refine ⟨[_, _, _, _, _, _, _, _, _], rfl, Nat.le_of_ble_eq_true rfl, ?_⟩
  | refine ⟨[_, _, _, _, _, _, _, _, _, _], rfl, Nat.le_of_ble_eq_true rfl, ?_⟩
  | refine ⟨[_, _, _, _, _, _, _, _, _, _, _], rfl, Nat.le_of_ble_eq_true rfl, ?_⟩
  | refine ⟨[_, _, _, _, _, _, _, _, _, _, _, _], rfl, Nat.le_of_ble_eq_true rfl, ?_⟩)
local macro_rules | `(tactic| walk_at "alc") => `(tactic| refine ae_call0 (Ψ := fun _ _ => False) (by walk_at "almono") efits_none ?_)
local macro_rules | `(tactic| walk_at "al") => `(tactic| repeat (first | walk_at "al1" | with_reducible refine as_seq ?_ | with_reducible refine ae_tup ?_ | with_reducible walk_at "alc" | refine ⟨_, rfl, ?_⟩ | walk_at "alds" | refine ⟨_, _, _, _, _, rfl, rfl, rfl, rfl, rfl, ?_⟩))
local macro_rules | `(tactic| walk_at "alF") => `(tactic| repeat (first | walk_at "al1" | with_reducible refine as_seq ?_ | with_reducible refine ae_tup ?_ | with_reducible refine ae_lst ?_ | with_reducible walk_at "alc" | refine ⟨_, rfl, ?_⟩ | walk_at "alds" | refine ⟨_, _, _, _, _, rfl, rfl, rfl, rfl, rfl, ?_⟩))
local macro_rules | `(tactic| walk_at "alo") => `(tactic| repeat (first | walk_at "al1" | with_reducible refine ae_tup ?_ | with_reducible walk_at "alc" | refine ⟨_, rfl, ?_⟩ | walk_at "alds" | refine ⟨_, _, _, _, _, rfl, rfl, rfl, rfl, rfl, ?_⟩))
local macro_rules | `(tactic| walk_at "almono") => `(tactic| first | exact mono_take | exact mono_unlike)
section
variable {P : Program} {w : World} {K : PySem.W.Frag} {mg : Str → Option Value} {base : Heap}
theorem ok_unlike (DD : DefAt K mg "_law_unlike" (top 27) ["_law_bag_here", "_law_many", "_law_count"]) (T : Bt mg) (G__law_take : FnAt P w K mg base CX0 1 "_law_take" ["_law_bag_here", "_law_many"] aTake) :
    FnAt P w K mg base CX0 2 "_law_unlike" ["_law_bag_here", "_law_many", "_law_count"] aUnlike := by
  refine fnat DD sc__law_unlike (fun xs M Φ Ψ h => ?_) (fun f cdv A outer s H E hr => ⟨_, (pss_cons (ps_par (i := 3) (j := 4) rfl sc__law_unlike.nd rfl rfl (by decide) rfl rfl (pa_cons (pe_listRg rfl rfl T.list (prg_1 rfl T.range (pv 1))) (pa_cons (pe_lst pa_nil) pa_nil)) rfl) (pss_cons (ps_for PassesOwn.never rfl (pi_range1 rfl T.range (pa_cons (pe_callB (call_min2 rfl) (by rfl) T.min (by decide +kernel) (pa_cons (pv 1) (pa_cons (pv 2) pa_nil))) pa_nil)) (pg_name (i := 5) sc__law_unlike.nd rfl (Or.inl rfl)) (pss_one (ps_expr (pe_bmK K PySem.F.plainAttrs_list PySem.F.slot_list_append PySem.F.type_list_append mt_append (pv 4) (pa_cons (pe_bmK K PySem.F.plainAttrs_list PySem.F.slot_list_pop PySem.F.type_list_pop mt_popAt (pv 3) (pa_cons (pe_fn G__law_take (hr.mono (by decide)) rfl pass0 (pa_cons (pv 0) (pa_cons (pe_callB (k_len K) (by rfl) T.len (by decide +kernel) (pa_cons (pv 3) pa_nil)) pa_nil))) pa_nil)) pa_nil))))) (pss_one (ps_ret (pv 4))))), fun B xs M Φ Ψ hB h => ?_⟩)
  · obtain ⟨g, x, c, n, m, rfl, _⟩ := h
    rfl
  · obtain ⟨g, x, c, n, m, rfl, rfl, h0, h1, h2, h3, p⟩ := h
    refine as_seq (as_par (aa_cons (ae_listRg1 (ae_var rfl ⟨n, rfl, h0, by omega, aa_cons (ae_lstM (aa_nil ⟨[], rfl, Nat.zero_le _, aa_nil ⟨_, _, rfl, ?_⟩⟩))⟩))))
    refine as_seq (as_for (n := 3) (fun i σ M => ∃ (g x c : Int) (left found : List Int) (a : Option AV), σ = [some (.m 0), some (.d (.int n)), some (.d (.int m)), some (.m 1), some (.m 2), a] ∧ M = [bag g x c, .lst (left.map D.int), .lst (found.map D.int)] ∧
        (left ++ found).Nodup ∧ (∀ k ∈ left ++ found, 0 ≤ k ∧ k < n) ∧ left.length + found.length = n.toNat ∧ found.length = i)
      (fun i σ M ⟨_, _, _, _, _, _, _, e, _⟩ => by rw [e]; rfl) (ai_rng1 (aa_cons (ae_cb (aa_cons (ae_var rfl (aa_cons (ae_var rfl (aa_nil (ac_min (aa_nil ⟨_, rfl, ?_, ?_, ⟨g, x, c, (List.range n.toNat).map (fun (i : Nat) => (i : Int)), [], none, rfl, ?_, ?_, ?_, ?_, rfl⟩, fun i d σ' M' hd hi => ?_, fun σ' M' hi => ?_⟩)))))))))))
    · split <;> omega
    · split <;> omega
    · unfold rngD
      rw [List.map_map]
      simp
    · rw [List.append_nil]
      refine List.pairwise_map.mpr (List.Pairwise.imp (fun {a b} h e => h (by omega)) (List.nodup_range (n := n.toNat)))
    · intro k hk
      rw [List.append_nil] at hk
      obtain ⟨j, hj, rfl⟩ := List.mem_map.mp hk
      have := List.mem_range.mp hj
      omega
    · simp
    · obtain ⟨g, x, c, left, found, a, rfl, rfl, nd, rg, hl, hf⟩ := hi
      obtain ⟨hlt, rfl⟩ := rngD_get hd
      have hleft : 0 < left.length := by
        by_cases e : m < n
        · rw [if_pos e] at hlt; omega
        · rw [if_neg e] at hlt; omega
      refine ag_name (as_drop (ae_append (ae_var rfl ⟨2, _, rfl, rfl, aa_cons (ae_popAt (ae_var rfl ⟨1, _, rfl, rfl, aa_cons ?_⟩))⟩)))
      walk_at "al"
      rw [List.length_map]
      refine take_sent rfl (by omega) (by omega) fun r g' x' c' r0 r1 => ?_
      have hr : r.toNat < left.length := by omega
      have hy : left[r.toNat]? = some left[r.toNat] := List.getElem?_eq_getElem hr
      have hp := perm_erase left r.toNat _ hy
      have hperm : (left.eraseIdx r.toNat ++ (found ++ [left[r.toNat]])).Perm (left ++ found) := by
        rw [← List.append_assoc]
        refine List.perm_append_singleton _ _ |>.trans ?_
        rw [← List.cons_append]
        exact hp.append_right found
      refine aa_nil ⟨r, r.toNat, left.map D.int, .int left[r.toNat], rfl, rfl, by omega, by omega, seqIndex_nat r0 (by rw [List.length_map]; exact r1), by rw [List.getElem?_map, hy]; rfl, ?_⟩
      refine aa_nil ⟨.int left[r.toNat], found.map D.int, rfl, rfl, by rw [List.length_map, sizeLine_eq]; omega, ?_⟩
      refine ⟨by simp [MO.below, bag], g', x', c', left.eraseIdx r.toNat, found ++ [left[r.toNat]], _, rfl, ?_, hperm.nodup_iff.mpr nd, fun k hk => rg k (hperm.mem_iff.mp hk), ?_, by rw [List.length_append, hf]; rfl⟩
      · rw [List.map_append]
        show [_, _, _] = _
        rw [show (left.map D.int).eraseIdx r.toNat = (left.eraseIdx r.toNat).map D.int from by rw [List.eraseIdx_eq_take_drop_succ, List.eraseIdx_eq_take_drop_succ, List.map_append, List.map_take, List.map_drop]]
        rfl
      · rw [List.length_append, List.length_singleton, List.length_eraseIdx_of_lt hr]
        omega
    · obtain ⟨g, x, c, left, found, a, rfl, rfl, nd, rg, hl, hf⟩ := hi
      rw [rngD_len] at hf
      refine as_ret (ae_var rfl ?_)
      refine Or.inl ⟨1, .d (.lst (found.map D.int)), Nat.le_refl _, .lst (by decide) rfl, by simp [MO.below, bag], p found _ _ _ (List.nodup_append.mp nd).2.1 (fun k hk => rg k (List.mem_append_right _ hk)) ?_⟩
      rw [hf]
      split <;> omega
end
end Wd

namespace Wd
open PySem PyProof.Rows L2 Al Gx
variable [Al.TabList]
theorem sc__law_rooms : FnScope ["_law_bag_here", "_law_most", "_law_widest", "_law_many", "_law_alike", "_law_sizes", "_law_k", "_law_rooms_here", "_law_ears", "_law_rows", "_law_heard", "_law_table", "_law_j"] ["_law_bag_here", "_law_most", "_law_widest"] (defScope (top 28)) := ⟨rfl, rfl, rfl, by decide +kernel, rfl, by decide +kernel, by decide +kernel⟩
def prodI (sizes : List Int) : List Int → Int → Int
  | [], a => a
  | e :: es, a => prodI sizes es (a * sizes.getD e.toNat 0)
/-- a room among n of these sizes -/
structure Rm.Ok (n : Nat) (sizes : List Int) (widest : Int) (x : Rm) : Prop where
  nd : x.ears.Nodup
  few : x.ears.length ≤ 3
  rg : ∀ e ∈ x.ears, 0 ≤ e ∧ e < n
  s1 : 1 ≤ x.size
  sw : x.size ≤ widest
  f0 : 0 ≤ x.first
  f1 : x.first < x.size
  tr : ∀ t ∈ x.table, 0 ≤ t ∧ t < x.size
  tl : (x.table.length : Int) = prodI sizes x.ears 1
structure Rms (rms : List Rm) (most widest : Int) : Prop where
  n1 : 1 ≤ rms.length
  nm : (rms.length : Int) ≤ most
  ok : ∀ x ∈ rms, x.Ok rms.length (rms.map Rm.size) widest
def aRms : ASp := fun xs M Φ _ => ∃ (g x c most widest : Int), xs = [.m 0, .d (.int most), .d (.int widest)] ∧ M = [bag g x c] ∧ 1 ≤ most ∧ most ≤ 900 ∧ 1 ≤ widest ∧ widest ≤ 100 ∧
  ∀ (rms : List Rm) (g' x' c' : Int), Rms rms most widest → Φ (.d (.lst (rms.map Rm.t))) [bag g' x' c']
theorem mono_rms : Mono aRms := fun xs M Φ Φ' Ψ Ψ' h1 _ ⟨g, x, c, n, m, e1, e2, a1, a2, a3, a4, p⟩ => ⟨g, x, c, n, m, e1, e2, a1, a2, a3, a4, fun l g' x' c' b1 => h1 _ _ (p l g' x' c' b1)⟩
theorem six_at {r : Int} (h0 : 0 ≤ r) (h : r < 6) (l : List D) (hl : l = [.int 1, .int 2, .int 3, .int 2, .int 1, .int 0]) : ∃ v, 0 ≤ v ∧ v ≤ 3 ∧ atI l r = some (.int v) := by
  subst hl
  obtain rfl | rfl | rfl | rfl | rfl | rfl : r = 0 ∨ r = 1 ∨ r = 2 ∨ r = 3 ∨ r = 4 ∨ r = 5 := by omega
  all_goals exact ⟨_, by decide, by decide, rfl⟩
theorem int_at {l : List Int} {k : Int} (h0 : 0 ≤ k) (h : k < l.length) : atI (l.map D.int) k = some (.int (l.getD k.toNat 0)) := by
  have hk : k.toNat < l.length := by omega
  have e : ((k.toNat : Nat) : Int) = k := by omega
  have := atI_natD (l := l.map D.int) (i := k.toNat) (d := .int (l.getD k.toNat 0)) (by rw [List.getElem?_map, List.getD, List.getElem?_eq_getElem hk]; rfl)
  rwa [e] at this
theorem getD_mem {l : List Int} {k : Int} (h0 : 0 ≤ k) (h : k < l.length) : l.getD k.toNat 0 ∈ l := by
  have hk : k.toNat < l.length := by omega
  rw [List.getD, List.getElem?_eq_getElem hk]
  exact List.getElem_mem hk
local macro_rules | `(tactic| walk_at "alside") => `(tactic| first
  | decide
  | (dsimp only; decide)
  | exact Or.inr (by decide)
  | exact Or.inl (by decide)
  | (dsimp only; omega)
  | (unfold CDiv; omega)
  | (unfold CPow; omega)
  | (unfold CMul; omega)
  | assumption)
local macro_rules | `(tactic| walk_at "al1") => `(tactic| first
  | with_reducible refine as_asg ?_
  | with_reducible refine as_drop ?_
  | with_reducible refine as_ret ?_
  | with_reducible refine as_if ?_
  | with_reducible refine as_next ?_
  | with_reducible refine at_test ?_
  | with_reducible refine at_b ?_
  | with_reducible refine at_and ?_
  | with_reducible refine at_or ?_
  | with_reducible refine at_not ?_
  | with_reducible refine ae_op ?_
  | with_reducible refine ae_un ?_
  | with_reducible refine ae_cb ?_
  | with_reducible refine ae_if ?_
  | with_reducible refine ae_andV ?_
  | with_reducible refine ae_orV ?_
  | with_reducible refine ae_notV ?_
  | with_reducible refine ae_chain ?_
  | with_reducible refine ae_int ?_
  | with_reducible refine ae_bl ?_
  | with_reducible refine ae_non ?_
  | with_reducible refine ae_str ?_
  | with_reducible refine ae_ty ?_
  | with_reducible refine ae_adr ?_
  | with_reducible refine aa_nil ?_
  | with_reducible refine aa_cons ?_
  | with_reducible refine ag_name ?_
  | with_reducible refine ag_sub ?_
  | with_reducible refine at_yes ?_
  | ((with_reducible show AE _ _ (tVar _) _ _ _); refine ae_var rfl ?_)
  | ((with_reducible show AR _ _ (uAdd _) _ _ _ _); refine ur_addI ?_)
  | ((with_reducible show AR _ _ (uMul _) _ _ _ _); refine ur_mulI (by walk_at "alside") ?_)
  | ((with_reducible show AR _ _ (uEq _) _ _ _ _); first | refine ur_eqI ?_ | refine ur_eqS ?_ | refine ur_eqB ?_)
  | ((with_reducible show AR _ _ (uNe _) _ _ _ _); first | refine ur_neI ?_ | refine ur_neS ?_ | refine ur_neB ?_)
  | ((with_reducible show AR _ _ (rIx _) _ _ _ _); first | refine ur_ixM rfl rfl ?_ | refine ur_ixL rfl ?_ | refine ur_ixT rfl ?_ | refine ur_ixS rfl ?_)
  | ((with_reducible show AC _ _ (uLen _) _ _ _); first | refine uc_len (.tup _) ?_ | refine uc_len (.lst _) ?_ | refine uc_len (.scr _) ?_ | refine uc_len (.mm rfl) ?_)
  | ((with_reducible show AR _ _ (rI0 _) _ _ _ _); first | with_reducible refine ar_i0 ?_ | with_reducible refine ar_b0 ?_)
  | ((with_reducible show AU _ _ (rU _) _ _ _); with_reducible refine au_i ?_)
  | ((with_reducible show AR _ _ (rI _ _) _ _ _ _); refine ar_i (by walk_at "alside") ?_)
  | ((with_reducible show AR _ _ (rIxL _) _ _ _ _); first | refine ar_ixM rfl rfl ?_ | refine ar_ixL rfl ?_ | refine ar_ixS rfl ?_)
  | ((with_reducible show AR _ _ (rIxT _) _ _ _ _); refine ar_ixT rfl ?_)
  | ((with_reducible show AR _ _ rEq _ _ _ _); first | with_reducible refine ar_eqI ?_ | with_reducible refine ar_eqS ?_ | with_reducible refine ar_eqB ?_)
  | ((with_reducible show AR _ _ rNe _ _ _ _); first | with_reducible refine ar_neI ?_ | with_reducible refine ar_neS ?_ | with_reducible refine ar_neB ?_))
local macro_rules | `(tactic| walk_at "alds") => `(tactic| first
  | refine ⟨[], rfl, Nat.le_of_ble_eq_true rfl, ?_⟩
  | refine ⟨[_], rfl, Nat.le_of_ble_eq_true rfl, ?_⟩
  | refine ⟨[_, _], rfl, Nat.le_of_ble_eq_true rfl, ?_⟩
  | refine ⟨[_, _, _], rfl, Nat.le_of_ble_eq_true rfl, ?_⟩
  | refine ⟨[_, _, _, _], rfl, Nat.le_of_ble_eq_true rfl, ?_⟩
  | refine ⟨[_, _, _, _, _], rfl, Nat.le_of_ble_eq_true rfl, ?_⟩
  | refine ⟨[_, _, _, _, _, _], rfl, Nat.le_of_ble_eq_true rfl, ?_⟩
  | refine ⟨[_, _, _, _, _, _, _], rfl, Nat.le_of_ble_eq_true rfl, ?_⟩
  | refine ⟨[_, _, _, _, _, _, _, _], rfl, Nat.le_of_ble_eq_true rfl, ?_⟩
  | refine ⟨[_, _, _, _, _, _, _, _, _], rfl, Nat.le_of_ble_eq_true rfl, ?_⟩
  | refine ⟨[_, _, _, _, _, _, _, _, _, _], rfl, Nat.le_of_ble_eq_true rfl, ?_⟩
  | refine ⟨[_, _, _, _, _, _, _, _, _, _, _], rfl, Nat.le_of_ble_eq_true rfl, ?_⟩
  | refine ⟨[_, _, _, _, _, _, _, _, _, _, _, _], rfl, Nat.le_of_ble_eq_true rfl, ?_⟩)
local macro_rules | `(tactic| walk_at "alc") => `(tactic| refine ae_call0 (Ψ := fun _ _ => False) (by walk_at "almono") efits_none ?_)
local macro_rules | `(tactic| walk_at "al") => `(tactic| repeat (first | walk_at "al1" | with_reducible refine as_seq ?_ | with_reducible refine ae_tup ?_ | with_reducible walk_at "alc" | refine ⟨_, rfl, ?_⟩ | walk_at "alds" | refine ⟨_, _, _, _, _, rfl, rfl, rfl, rfl, rfl, ?_⟩))
local macro_rules | `(tactic| walk_at "alF") => `(tactic| repeat (first | walk_at "al1" | with_reducible refine as_seq ?_ | with_reducible refine ae_tup ?_ | with_reducible refine ae_lst ?_ | with_reducible walk_at "alc" | refine ⟨_, rfl, ?_⟩ | walk_at "alds" | refine ⟨_, _, _, _, _, rfl, rfl, rfl, rfl, rfl, ?_⟩))
local macro_rules | `(tactic| walk_at "alo") => `(tactic| repeat (first | walk_at "al1" | with_reducible refine ae_tup ?_ | with_reducible walk_at "alc" | refine ⟨_, rfl, ?_⟩ | walk_at "alds" | refine ⟨_, _, _, _, _, rfl, rfl, rfl, rfl, rfl, ?_⟩))
local macro_rules | `(tactic| walk_at "almono") => `(tactic| first | exact mono_take | exact mono_unlike | exact mono_rms)
section
variable {P : Program} {w : World} {K : PySem.W.Frag} {mg : Str → Option Value} {base : Heap}
theorem ok_rms (DD : DefAt K mg "_law_rooms" (top 28) ["_law_bag_here", "_law_most", "_law_widest"]) (T : Bt mg) (G__law_take : FnAt P w K mg base CX0 1 "_law_take" ["_law_bag_here", "_law_many"] aTake)
    (G__law_unlike : FnAt P w K mg base CX0 2 "_law_unlike" ["_law_bag_here", "_law_many", "_law_count"] aUnlike) :
    FnAt P w K mg base CX0 3 "_law_rooms" ["_law_bag_here", "_law_most", "_law_widest"] aRms := by
  refine fnat DD sc__law_rooms (fun xs M Φ Ψ h => ?_) (fun f cdv A outer s H E hr => ⟨_, (pss_cons (ps_set (i := 3) sc__law_rooms.nd rfl (Or.inl rfl) (pe_op (k_add K) pe_int (pe_fn G__law_take (hr.mono (by decide)) rfl pass0 (pa_cons (pv 0) (pa_cons (pv 1) pa_nil))))) (pss_cons (ps_set (i := 4) sc__law_rooms.nd rfl (Or.inl rfl) (pe_cmpR (k_eq K hr.units) (pe_fn G__law_take (hr.mono (by decide)) rfl pass0 (pa_cons (pv 0) (pa_cons pe_int pa_nil))) pe_int (nomark _))) (pss_cons (ps_set (i := 5) sc__law_rooms.nd rfl (Or.inr rfl) (pe_lc (own := [("_law_k", 6)]) rfl sc__law_rooms.nd (pi_range1 rfl T.range (pa_cons (pv 3) pa_nil)) (blkOk_by (own := [("_law_k", 6)]) (N := ["_law_bag_here", "_law_most", "_law_widest", "_law_many", "_law_alike", "_law_sizes", "_law_k", "_law_rooms_here", "_law_ears", "_law_rows", "_law_heard", "_law_table", "_law_j"]) (sc := defScope (top 28)) (by decide +kernel)) (fun _ _ _ _ _ => by exact (pg_name (i := 6) sc__law_rooms.nd rfl (Or.inl rfl))) (fun _ _ _ _ _ => by exact pts_nil) (fun _ _ _ _ _ => by exact (pe_op (k_add K) pe_int (pe_fn G__law_take (hr.mono (by decide)) rfl pass0 (pa_cons (pv 0) (pa_cons (pv 2) pa_nil))))))) (pss_cons (ps_if (pt_val (pv 4)) (pss_one (ps_set (i := 5) sc__law_rooms.nd rfl (Or.inr rfl) (pe_op (k_mul K) (pe_lst (pa_cons (pe_ix (k_ix K) (pv 5) pe_int (fun _ _ => rfl)) pa_nil)) (pv 3)))) pss_nil) (pss_cons (ps_set (i := 7) sc__law_rooms.nd rfl (Or.inl rfl) (pe_lst pa_nil)) (pss_cons (ps_for PassesOwn.never rfl (pi_range1 rfl T.range (pa_cons (pv 3) pa_nil)) (pg_name (i := 6) sc__law_rooms.nd rfl (Or.inr rfl)) (pss_cons (ps_set (i := 8) sc__law_rooms.nd rfl (Or.inl rfl) (pe_callTy (k_tupOf K) (by rfl) T.tuple (by decide +kernel) (pa_cons (pe_fn G__law_unlike (hr.mono (by decide)) rfl pass0 (pa_cons (pv 0) (pa_cons (pv 3) (pa_cons (pe_ix (k_ix K) (pe_lst (pa_cons pe_int (pa_cons pe_int (pa_cons pe_int (pa_cons pe_int (pa_cons pe_int (pa_cons pe_int pa_nil))))))) (pe_fn G__law_take (hr.mono (by decide)) rfl pass0 (pa_cons (pv 0) (pa_cons pe_int pa_nil))) (fun _ _ => rfl)) pa_nil)))) pa_nil))) (pss_cons (ps_set (i := 9) sc__law_rooms.nd rfl (Or.inl rfl) pe_int) (pss_cons (ps_for PassesOwn.never rfl (pi_seqK K (pv 8)) (pg_name (i := 10) sc__law_rooms.nd rfl (Or.inl rfl)) (pss_one (ps_set (i := 9) sc__law_rooms.nd rfl (Or.inl rfl) (pe_op (k_mul K) (pv 9) (pe_ix (k_ix K) (pv 5) (pv 10) (fun _ _ => rfl)))))) (pss_cons (ps_set (i := 11) sc__law_rooms.nd rfl (Or.inl rfl) (pe_callTy (k_tupOf K) (by rfl) T.tuple (by decide +kernel) (pa_cons (pe_lc (own := [("_law_j", 12)]) rfl sc__law_rooms.nd (pi_range1 rfl T.range (pa_cons (pv 9) pa_nil)) (blkOk_by (own := [("_law_j", 12)]) (N := ["_law_bag_here", "_law_most", "_law_widest", "_law_many", "_law_alike", "_law_sizes", "_law_k", "_law_rooms_here", "_law_ears", "_law_rows", "_law_heard", "_law_table", "_law_j"]) (sc := defScope (top 28)) (by decide +kernel)) (fun _ _ _ _ _ => by exact (pg_name (i := 12) sc__law_rooms.nd rfl (Or.inl rfl))) (fun _ _ _ _ _ => by exact pts_nil) (fun _ _ _ _ _ => by exact (pe_fn G__law_take (hr.mono (by decide)) rfl pass0 (pa_cons (pv 0) (pa_cons (pe_ix (k_ix K) (pv 5) (pv 6) (fun _ _ => rfl)) pa_nil))))) pa_nil))) (pss_one (ps_expr (pe_bmK K PySem.F.plainAttrs_list PySem.F.slot_list_append PySem.F.type_list_append mt_append (pv 7) (pa_cons (pe_tup (pa_cons (pv 8) (pa_cons (pe_ix (k_ix K) (pv 5) (pv 6) (fun _ _ => rfl)) (pa_cons (pe_fn G__law_take (hr.mono (by decide)) rfl pass0 (pa_cons (pv 0) (pa_cons (pe_ix (k_ix K) (pv 5) (pv 6) (fun _ _ => rfl)) pa_nil))) (pa_cons (pv 11) pa_nil))))) pa_nil))))))))) (pss_one (ps_ret (pv 7))))))))), fun B xs M Φ Ψ hB h => ?_⟩)
  · obtain ⟨g, x, c, n, m, rfl, _⟩ := h
    rfl
  · obtain ⟨g, x, c, most, widest, rfl, rfl, m1, m2, w1, w2, p⟩ := h
    refine as_seq ?_
    walk_at "alo"
    refine take_sent rfl (by omega) (by omega) fun r1 g1 x1 c1 r10 r11 => ?_
    walk_at "alo"
    refine as_seq ?_
    walk_at "alo"
    refine take_sent rfl (by decide) (by decide) fun r2 g2 x2 c2 r20 r21 => ?_
    walk_at "alo"
    generalize hn : (1 + r1) = n
    have hn1 : 1 ≤ n := by omega
    have hnm : n ≤ most := by omega
    generalize decide (r2 = 0) = alike
    -- the sizes
    refine as_seq (as_asgN (ae_lc (n := 1) (fun i acc M' => ∃ (g x c : Int) (l : List Int), M' = [bag g x c] ∧ acc = l.map D.int ∧ l.length = i ∧ ∀ v ∈ l, 1 ≤ v ∧ v ≤ widest) (fun i acc M' ⟨g, x, c, l, e, _⟩ => by rw [e]; exact ⟨rfl, rfl⟩) (gk_name rfl)
      (ai_rng1 (aa_cons (ae_var rfl (aa_nil ⟨n, rfl, by omega, by omega, ⟨g2, x2, c2, [], rfl, rfl, rfl, by simp⟩, fun i d acc M' hd hi => ?_, fun acc M' hi => ?_⟩))))))
    · obtain ⟨g, x, c, l, rfl, rfl, hl, hv⟩ := hi
      obtain ⟨hlt, rfl⟩ := rngD_get hd
      refine ag_name (at_yes ⟨fun _ => ?_, (fun z => nomatch z)⟩)
      walk_at "alo"
      refine take_sent rfl (by omega) (by omega) fun r g' x' c' r0 r1 => ?_
      walk_at "alo"
      exact ⟨_, [bag g' x' c'], rfl, rfl, by rw [List.length_map, sizeLine_eq]; omega, g', x', c', l ++ [1 + r], rfl, by rw [List.map_append]; rfl, by rw [List.length_append, hl]; rfl, fun v hvm => by
        rcases List.mem_append.mp hvm with h | h
        · exact hv v h
        · rw [List.mem_singleton.mp h]; omega⟩
    obtain ⟨g3, x3, c3, l0, rfl, rfl, hl0, hv0⟩ := hi
    rw [rngD_len] at hl0
    refine as_cut (fun σ M => ∃ (l : List Int), σ = [some (.m 0), some (.d (.int most)), some (.d (.int widest)), some (.d (.int n)), some (.d (.bl alike)), some (.d (.lst (l.map D.int))), none, none, none, none, none, none, none] ∧ M = [bag g3 x3 c3] ∧ l.length = n.toNat ∧ ∀ v ∈ l, 1 ≤ v ∧ v ≤ widest) ?_ ?_
    · walk_at "alo"
      refine iteB (fun _ => ?_) fun _ => as_next ⟨l0, rfl, rfl, hl0, hv0⟩
      refine as_asgN (ae_op (ae_lst (aa_cons (ae_op (ae_var rfl (ae_int (ur_ixL (int_at (Int.le_refl 0) (by omega)) (aa_nil ⟨[_], rfl, Nat.le_of_ble_eq_true rfl, ae_var rfl (ur_mulL (.lst _) (by omega) (by omega) (by rw [List.length_singleton, sizeLine_eq]; omega) ?_)⟩))))))))
      refine ⟨List.replicate n.toNat (l0.getD 0 0), ?_, rfl, by simp, fun v hv => ?_⟩
      · rw [List.map_replicate, show (List.replicate n.toNat [D.int (l0.getD (0 : Int).toNat 0)]).flatten = List.replicate n.toNat (D.int (l0.getD 0 0)) from by rw [List.flatten_replicate_singleton]; rfl]
        rfl
      · rw [List.eq_of_mem_replicate hv]
        exact hv0 _ (getD_mem (k := 0) (Int.le_refl 0) (by omega))
    rintro σ' M' ⟨sizes, rfl, rfl, hls, hvs⟩
    have hlen : (sizes.length : Int) = n := by omega
    refine as_seq (as_asgN (ae_lstM (aa_nil ⟨[], rfl, Nat.zero_le _, ?_⟩)))
    refine as_seq (as_for (n := 2) (fun i σ M => ∃ (g x c : Int) (rms : List Rm) (a1 a2 a3 a4 a5 a6 : Option AV), σ = [some (.m 0), some (.d (.int most)), some (.d (.int widest)), some (.d (.int n)), some (.d (.bl alike)), some (.d (.lst (sizes.map D.int))), a1, some (.m 1), a2, a3, a4, a5, a6] ∧
        M = [bag g x c, .lst (rms.map Rm.t)] ∧ rms.length = i ∧ rms.map Rm.size = sizes.take i ∧ ∀ y ∈ rms, y.Ok n.toNat sizes widest)
      (fun i σ M ⟨_, _, _, _, _, _, _, _, _, _, _, e, _⟩ => by rw [e]; rfl) (ai_rng1 (aa_cons (ae_var rfl (aa_nil ⟨n, rfl, by omega, by omega, ⟨g3, x3, c3, [], none, none, none, none, none, none, rfl, rfl, rfl, by simp, by simp⟩, fun i d σ' M' hd hi => ?_, fun σ' M' hi => ?_⟩)))))
    · obtain ⟨g, x, c, rms, a1, a2, a3, a4, a5, a6, rfl, rfl, hrl, hrs, hro⟩ := hi
      obtain ⟨hlt, rfl⟩ := rngD_get hd
      rw [Int.zero_add]
      refine ag_name ?_
      refine as_seq ?_
      walk_at "alo"
      refine ae_lst ?_
      walk_at "alo"
      refine take_sent rfl (by decide) (by decide) fun r3 g4 x4 c4 r30 r31 => ?_
      obtain ⟨v, v0, v3, hv⟩ := six_at r30 r31 _ rfl
      refine ur_ixL hv ?_
      walk_at "alo"
      refine unlike_sent rfl (by omega) (by omega) v0 (by omega) fun el g5 x5 c5 nd rg hel => ?_
      have hel3 : el.length ≤ 3 := by
        by_cases e : v < n
        · rw [if_pos e] at hel; omega
        · rw [if_neg e] at hel; omega
      have hin : i < sizes.length := by omega
      have hsi : atI (sizes.map D.int) (i : Int) = some (.int (sizes.getD i 0)) := int_at (k := (i : Int)) (by omega) (by omega)
      have hsm := hvs _ (getD_mem (l := sizes) (k := (i : Int)) (by omega) (by omega))
      rw [Int.toNat_natCast] at hsm
      walk_at "alo"
      refine uc_tuple (.lst _) ?_
      walk_at "alo"
      refine as_seq (as_asgN (ae_int ?_))
      refine as_seq (as_for (n := 2) (fun j σ M => ∃ (acc : Int) (b q5 q6 : Option AV), σ = [some (.m 0), some (.d (.int most)), some (.d (.int widest)), some (.d (.int n)), some (.d (.bl alike)), some (.d (.lst (sizes.map D.int))), some (.d (.int i)), some (.m 1), some (.d (.tup (el.map D.int))), some (.d (.int acc)), b, q5, q6] ∧
          M = [bag g5 x5 c5, .lst (rms.map Rm.t)] ∧ prodI sizes el 1 = prodI sizes (el.drop j) acc ∧ 0 ≤ acc ∧ acc ≤ 100 ^ j)
        (fun j σ M ⟨_, _, _, _, _, e, _⟩ => by rw [e]; rfl) (ai_seqT (ae_var rfl ⟨_, rfl, ⟨1, _, _, _, rfl, rfl, by rw [List.drop_zero], by decide, by decide⟩, fun j d σ' M' hd hi => ?_, fun σ' M' hi => ?_⟩)))
      · obtain ⟨acc, b, q5, q6, rfl, rfl, hpr, h0, h100⟩ := hi
        rw [List.getElem?_map] at hd
        obtain ⟨e, he, rfl⟩ := Option.map_eq_some_iff.mp hd
        have hj := (List.getElem?_eq_some_iff.mp he).1
        have hdr : el.drop j = e :: el.drop (j + 1) := by
          rw [List.drop_eq_getElem_cons hj]
          rw [List.getElem?_eq_getElem hj] at he
          cases he; rfl
        have hre := rg e (List.mem_of_getElem? he)
        have hse := hvs _ (getD_mem (l := sizes) (k := e) hre.1 (by omega))
        have hacc : acc ≤ 1000000 := by
          have : j = 0 ∨ j = 1 ∨ j = 2 := by omega
          rcases this with rfl | rfl | rfl
          · exact Int.le_trans h100 (by decide)
          · exact Int.le_trans h100 (by decide)
          · exact Int.le_trans h100 (by decide)
        refine ag_name (as_asgN (ae_op (ae_var rfl (ae_op (ae_var rfl (ae_var rfl (ur_ixL (int_at hre.1 (by omega)) (ur_mulI (.inl ⟨by omega, by omega⟩) ?_))))))))
        refine ⟨by simp [MO.below, bag], acc * sizes.getD e.toNat 0, some (.d (.int e)), _, _, rfl, rfl, ?_, Int.mul_nonneg h0 (by omega), ?_⟩
        · rw [hpr, hdr]; rfl
        · rw [Int.pow_succ]
          exact Int.mul_le_mul h100 (by omega) (by omega) (Int.le_of_lt (Int.pow_pos (by decide)))
      · obtain ⟨acc, b, q5, q6, rfl, rfl, hpr, h0, h100⟩ := hi
        rw [List.length_map] at hpr h100
        rw [List.drop_length] at hpr
        have hpr : prodI sizes el 1 = acc := hpr
        have hacc : acc ≤ 1000000 := by
          have : el.length = 0 ∨ el.length = 1 ∨ el.length = 2 ∨ el.length = 3 := by omega
          rcases this with h | h | h | h <;> rw [h] at h100
          · exact Int.le_trans h100 (by decide)
          · exact Int.le_trans h100 (by decide)
          · exact Int.le_trans h100 (by decide)
          · exact Int.le_trans h100 (by decide)
        refine as_seq (as_asgN (ae_cb (aa_cons (ae_lc (n := 2) (fun j acc M' => ∃ (g x c : Int) (l : List Int), M' = [bag g x c, .lst (rms.map Rm.t)] ∧ acc = l.map D.int ∧ l.length = j ∧ ∀ t ∈ l, 0 ≤ t ∧ t < sizes.getD i 0) (fun j acc M' ⟨g, x, c, l, e, _⟩ => by rw [e]; exact ⟨rfl, rfl⟩) (gk_name rfl)
          (ai_rng1 (aa_cons (ae_var rfl (aa_nil ⟨acc, rfl, by omega, by omega, ⟨g5, x5, c5, [], rfl, rfl, rfl, by simp⟩, fun j d acc' M' hd hi => ?_, fun acc' M' hi => ?_⟩))))))))
        · obtain ⟨g, x, c, l, rfl, rfl, hl, hv2⟩ := hi
          obtain ⟨hlt2, rfl⟩ := rngD_get hd
          refine ag_name (at_yes ⟨fun _ => ?_, (fun z => nomatch z)⟩)
          walk_at "alo"
          refine ur_ixL hsi ?_
          walk_at "alo"
          refine take_sent rfl (by omega) (by omega) fun r g' x' c' r0 r1 => ?_
          exact ⟨_, [bag g' x' c', .lst (rms.map Rm.t)], rfl, rfl, by rw [List.length_map, sizeLine_eq]; omega, g', x', c', l ++ [r], rfl, by rw [List.map_append]; rfl, by rw [List.length_append, hl]; rfl, fun t ht => by
            rcases List.mem_append.mp ht with h | h
            · exact hv2 t h
            · rw [List.mem_singleton.mp h]; omega⟩
        obtain ⟨g6, x6, c6, tab, rfl, rfl, htl, htr⟩ := hi
        rw [rngD_len] at htl
        refine aa_nil (uc_tuple (.lst _) ?_)
        refine as_drop (ae_append (ae_var rfl ⟨1, _, rfl, rfl, aa_cons (ae_tup (aa_cons (ae_var rfl (aa_cons (ae_op (ae_var rfl (ae_var rfl (ur_ixL hsi (aa_cons ?_)))))))))⟩))
        walk_at "alo"
        refine ur_ixL hsi ?_
        walk_at "alo"
        refine take_sent rfl (by omega) (by omega) fun r7 g7 x7 c7 r70 r71 => ?_
        walk_at "alo"
        refine ⟨Rm.t ⟨el, sizes.getD i 0, r7, tab⟩, rms.map Rm.t, rfl, rfl, by rw [List.length_map, sizeLine_eq]; omega, ?_⟩
        refine ⟨by simp [MO.below, bag], g7, x7, c7, rms ++ [⟨el, sizes.getD i 0, r7, tab⟩], _, _, _, _, _, _, rfl, by rw [List.map_append]; rfl, by rw [List.length_append, hrl]; rfl, ?_, fun y hy => ?_⟩
        · rw [List.map_append, hrs, List.take_add_one, List.getElem?_eq_getElem hin]
          show _ ++ [sizes.getD i 0] = _
          rw [List.getD, List.getElem?_eq_getElem hin]
          rfl
        · rcases List.mem_append.mp hy with h | h
          · exact hro y h
          · rw [List.mem_singleton.mp h]
            exact ⟨nd, hel3, fun e he => by have := rg e he; omega, hsm.1, hsm.2, r70, r71, htr, by rw [hpr]; show (tab.length : Int) = acc; omega⟩
    · obtain ⟨g, x, c, rms, a1, a2, a3, a4, a5, a6, rfl, rfl, hrl, hrs, hro⟩ := hi
      rw [rngD_len] at hrl hrs
      refine as_ret (ae_var rfl ?_)
      have hs : rms.map Rm.size = sizes := by rw [hrs, ← hls, List.take_length]
      refine Or.inl ⟨1, .d (.lst (rms.map Rm.t)), Nat.le_refl _, .lst (by decide) rfl, by simp [MO.below, bag], p rms _ _ _ ⟨by omega, by omega, fun y hy => ?_⟩⟩
      rw [hs, hrl]
      exact hro y hy
end
end Wd

namespace Wd
open PySem PyProof.Rows L2 Al Gx
variable [Al.TabList]
theorem all_from {l : List Int} {lo hi : Int} (h : ∀ t ∈ l, lo ≤ t ∧ t ≤ hi) : (l.map D.int).all (fromB lo hi) = true := by
  rw [List.all_eq_true]
  intro d hd
  obtain ⟨t, ht, rfl⟩ := List.mem_map.mp hd
  obtain ⟨h1, h2⟩ := h t ht
  show (decide (lo ≤ t) && decide (t ≤ hi)) = true
  rw [decide_eq_true h1, decide_eq_true h2]; rfl
theorem rows_prod {rms : List Rm} {n : Nat} {sizes : List Int} {w : Int} (hs : rms.map Rm.size = sizes) (hn : rms.length = n) (ok : ∀ x ∈ rms, x.Ok n sizes w) (hw : w ≤ 60) : ∀ (l : List Int) (a : Int), (∀ e ∈ l, 0 ≤ e ∧ e < n) → rowsD (rms.map Rm.rd) (l.map D.int) a = some (prodI sizes l a)
  | [], a, _ => rfl
  | e :: l, a, h => by
    have he := h e List.mem_cons_self
    have hl : e.toNat < rms.length := by omega
    have hx : (rms.map Rm.rd)[(toI (.int e)).toNat]? = some rms[e.toNat].rd := by
      show (rms.map Rm.rd)[e.toNat]? = _
      rw [List.getElem?_map, List.getElem?_eq_getElem hl]; rfl
    have hok := ok _ (List.getElem_mem hl)
    have hsz : sizes.getD e.toNat 0 = rms[e.toNat].size := by
      rw [← hs, List.getD, List.getElem?_map, List.getElem?_eq_getElem hl]; rfl
    show (match (rms.map Rm.rd)[(toI (.int e)).toNat]? with | some x => if fromB 1 60 x.s = true then rowsD (rms.map Rm.rd) (l.map D.int) (a * toI x.s) else none | none => none) = _
    rw [hx]
    dsimp only
    have hf : fromB 1 60 (rms[e.toNat].rd).s = true := by
      show (decide (1 ≤ rms[e.toNat].size) && decide (rms[e.toNat].size ≤ 60)) = true
      rw [decide_eq_true hok.s1, decide_eq_true (Int.le_trans hok.sw hw)]; rfl
    rw [if_pos hf, rows_prod hs hn ok hw l _ fun e' he' => h e' (List.mem_cons_of_mem _ he')]
    show some (prodI sizes l (a * rms[e.toNat].size)) = some (prodI sizes l (a * sizes.getD e.toNat 0))
    rw [hsz]
theorem prod_le {sizes : List Int} {w : Int} (h0 : 0 ≤ w) (hv : ∀ v ∈ sizes, 1 ≤ v ∧ v ≤ w) : ∀ (l : List Int) (a : Int), (∀ e ∈ l, 0 ≤ e ∧ e < sizes.length) → 0 ≤ a → prodI sizes l a ≤ a * w ^ l.length
  | [], a, _, _ => by show a ≤ a * w ^ 0; simp
  | e :: l, a, h, ha => by
    have he := h e List.mem_cons_self
    have hs := hv _ (getD_mem he.1 he.2)
    have := prod_le h0 hv l (a * sizes.getD e.toNat 0) (fun e' he' => h e' (List.mem_cons_of_mem _ he')) (Int.mul_nonneg ha (by omega))
    refine Int.le_trans this ?_
    rw [List.length_cons, Int.pow_succ]
    have h1 : 0 ≤ w ^ l.length := Int.pow_nonneg h0
    rw [Int.mul_comm (w ^ l.length) w, ← Int.mul_assoc]
    exact Int.mul_le_mul_of_nonneg_right (Int.mul_le_mul_of_nonneg_left hs.2 ha) h1
theorem hears_ok {rms : List Rm} {n : Nat} {sizes : List Int} {w : Int} {x : Rm} (ok : x.Ok n sizes w) : hearsB n (x.rd).h = true := by
  show (decide ((x.ears.map D.int).length ≤ 3) && ((x.ears.map D.int).all (fromB 0 ((n : Int) - 1)) && decide ((x.ears.map D.int).map toI).Nodup)) = true
  rw [decide_eq_true (by rw [List.length_map]; exact ok.few), all_from (fun t ht => by have := ok.rg t ht; omega), decide_eq_true (by rw [toI_map]; exact ok.nd)]
  rfl
theorem fault_ok {rms : List Rm} {n : Nat} {sizes : List Int} {w : Int} (hs : rms.map Rm.size = sizes) (hn : rms.length = n) (ok : ∀ x ∈ rms, x.Ok n sizes w) (hw : w ≤ 12) {x : Rm} (hx : x ∈ rms) : faultD (rms.map Rm.rd) x.rd = none := by
  have o := ok x hx
  unfold faultD
  rw [if_pos (by rw [List.length_map, hn]; exact hears_ok (rms := rms) o)]
  have h1 : fromB 1 60 (x.rd).s = true := by
    show (decide (1 ≤ x.size) && decide (x.size ≤ 60)) = true
    rw [decide_eq_true o.s1, decide_eq_true (by have := o.sw; omega)]; rfl
  have h2 : fromB 0 (toI (x.rd).s - 1) (x.rd).f = true := by
    show (decide (0 ≤ x.first) && decide (x.first ≤ x.size - 1)) = true
    rw [decide_eq_true o.f0, decide_eq_true (by have := o.f1; omega)]; rfl
  have h3 : ruleB (rms.map Rm.rd) x.rd = true := by
    have hp := rows_prod hs hn ok (by omega) x.ears 1 o.rg
    have hlen : sizes.length = n := by rw [← hs, List.length_map, hn]
    have hle := prod_le (sizes := sizes) (w := w) (by have := o.s1; have := o.sw; omega) (fun v hv => by
      rw [← hs] at hv
      obtain ⟨y, hy, rfl⟩ := List.mem_map.mp hv
      exact ⟨(ok y hy).s1, (ok y hy).sw⟩) x.ears 1 (by rw [hlen]; exact o.rg) (by decide)
    have hw0 : 0 ≤ w := by have := o.s1; have := o.sw; omega
    have hb : prodI sizes x.ears 1 ≤ 1728 := by
      refine Int.le_trans hle ?_
      rw [Int.one_mul]
      have hf := o.few
      have : x.ears.length = 0 ∨ x.ears.length = 1 ∨ x.ears.length = 2 ∨ x.ears.length = 3 := by omega
      have w2 : w * w ≤ 12 * 12 := Int.mul_le_mul hw hw hw0 (by decide)
      have w3 : w * w * w ≤ 12 * 12 * 12 := Int.mul_le_mul w2 hw hw0 (by decide)
      rcases this with h | h | h | h <;> rw [h]
      · rw [Int.pow_zero]; decide
      · rw [Int.pow_succ, Int.pow_zero, Int.one_mul]; omega
      · rw [Int.pow_succ, Int.pow_succ, Int.pow_zero, Int.one_mul]; omega
      · rw [Int.pow_succ, Int.pow_succ, Int.pow_succ, Int.pow_zero, Int.one_mul]; omega
    have htl := o.tl
    show (match rowsD (rms.map Rm.rd) (x.ears.map D.int) 1 with | some m => !decide (2000 < m) && (decide (((x.table.map D.int).length : Int) = m) && (x.table.map D.int).all (fromB 0 (x.size - 1))) | none => true) = true
    rw [hp]
    dsimp only
    rw [decide_eq_false (by omega), decide_eq_true (by rw [List.length_map]; exact htl), all_from (fun t ht => by have := o.tr t ht; omega)]
    rfl
  rw [if_pos h1, if_pos h2, if_pos h3]
theorem first_none {rs : List Rd} : ∀ {l : List Rd} {k : Nat}, (∀ x ∈ l, faultD rs x = none) → firstF rs k l = none
  | [], _, _ => rfl
  | x :: l, k, h => by
    show (match faultD rs x with | some s => some ((k : Int), s) | none => firstF rs (k + 1) l) = none
    rw [h x List.mem_cons_self]
    exact first_none fun y hy => h y (List.mem_cons_of_mem _ hy)
theorem web_ok {rms : List Rm} {most w : Int} (h : Rms rms most w) (hm : most ≤ 12) (hw : w ≤ 12) : webD (rms.map Rm.rd) = none := by
  have := h.n1
  have := h.nm
  unfold webD
  rw [if_pos (by rw [List.length_map]; omega)]
  exact first_none fun x hx => by
    obtain ⟨y, hy, rfl⟩ := List.mem_map.mp hx
    exact fault_ok rfl rfl h.ok hw hy
theorem heard_ok {rms : List Rm} {most w : Int} (h : Rms rms most w) : Heard (rms.map Rm.rd) := fun k x hx => by
  obtain ⟨y, hy, rfl⟩ := List.mem_map.mp (List.mem_of_getElem? hx)
  rw [List.length_map]
  exact hears_ok (rms := rms) (h.ok y hy)
end Wd

/-! lists of lists that change; slices of tuples, the whole too -/
namespace Al
open PySem PyProof.Rows L2 Gx
variable [Al.TabList]
theorem cutL_lo {α : Type} (l : List α) (k : Nat) : cutL l none (some (k : Int)) = l.take k := by
  unfold cutL
  rw [HT.sIx_none, HT.sIx_nat, List.drop_zero, Nat.sub_zero]
  rcases Nat.le_total k l.length with h | h
  · rw [Nat.min_eq_left h]
  · rw [Nat.min_eq_right h, List.take_length, List.take_of_length_le h]
theorem cutL_hi {α : Type} (l : List α) (k : Nat) : cutL l (some (k : Int)) none = l.drop k := by
  unfold cutL
  rw [HT.sIx_none, HT.sIx_nat]
  rcases Nat.le_total k l.length with h | h
  · rw [Nat.min_eq_left h, List.take_of_length_le (by rw [List.length_drop]; exact Nat.le_refl _)]
  · rw [Nat.min_eq_right h, Nat.sub_self, List.take_zero, List.drop_of_length_le h]
theorem k_slA (K : PySem.W.Frag) {X : Cx} (hK : X.K = K := by rfl) : SlR X (rSlA K) := hK ▸ sl_tupA
section
variable {B : Base} {K : PySem.W.Frag} {σ : AEnv} {M : List MO} {ta tb te tl : TE} {x y : AV} {Φ : AV → List MO → Prop}
theorem ae_sliceTA {te : TE} {tl th : TO} (h : AE B K te σ M fun x M1 => ∃ l, x = .d (.tup l) ∧ AO B K tl σ M1 fun lo M2 => AO B K th σ M2 fun hi M3 => Φ (.d (.tup (cutL l lo hi))) M3) : AE B K (tSl (rSlA K) te tl th) σ M Φ := fun W μ H τ o s e Q q =>
  h W μ H τ o s e _ fun x M1 W1 μ1 H1 v ⟨l, e1, p⟩ f1 r1 => by
    subst e1
    refine p W1 μ1 H1 τ f1.ok f1.sim (f1.re e) _ fun lo M2 W2 μ2 H2 p2 f2 => p2 W2 μ2 H2 τ f2.ok f2.sim ((f1.trans f2).re e) _ fun hi M3 W3 μ3 H3 p3 f3 => ?_
    obtain ⟨a, vs, rfl, h1, h2⟩ := r1
    have f23 := f2.trans f3
    refine ⟨a, vs, rfl, sqt_mono f3.sim.sub (sqt_mono f23.wext h1), fun hw => ?_, fun hw p hp => ?_⟩
    · have e : cutL l lo hi = l := by
        unfold cutL
        rw [h2.length, hw.1, hw.2, List.drop_zero, Nat.sub_zero, List.take_of_length_le (by rw [h2.length]; exact Nat.le_refl _)]
      have p3 : Φ (.d (.tup (cutL l lo hi))) M3 := p3
      rw [e] at p3
      exact q _ _ _ _ _ _ p3 (f1.trans f23) ⟨a, vs, rfl, sqt_mono f23.wext h1, h2.mono f23.wext⟩
    · have g := go_new (u := .tup (cutV vs lo hi)) f3.ok f3.sim hp
      exact q _ _ _ _ _ _ p3 (f1.trans (f23.trans g)) ⟨p, _, rfl, .inl (.inl upd_same), (RDs.mono (f23.trans g).wext h2).cut lo hi⟩
/-- an item of a list of lists -/
theorem ur_ixLS {k : Nat} {i : Int} {l : List AV} {y : AV} (hm : M[k]? = some (.ls l)) (ha : atI l i = some y) (q : Φ y M) : AR B K (rIx K) (.m k) (.d (.int i)) M Φ := fun W μ H u w o s hu hw Q qq => by
  obtain ⟨a, h1, rfl⟩ := hu
  cases hw
  obtain ⟨vs, e1, e2⟩ := s.ob k a _ h1 hm
  unfold atI at ha
  cases e : ixN l.length i with
  | none => rw [e] at ha; cases ha
  | some j =>
    rw [e] at ha
    obtain ⟨v, hv, rv⟩ := e2.get (i := j) ha
    refine .inl ⟨a, vs, i, v, rfl, rfl, .inl (.inl e1), by unfold atI; rw [← e2.length, e]; exact hv, qq _ _ _ _ _ _ q (.refl o s) rv⟩
theorem uc_lenLS {k : Nat} {l : List AV} (hm : M[k]? = some (.ls l)) (q : Φ (.d (.int (l.length : Int))) M) : AC B K (uLen K) [.m k] M Φ := fun W μ H us o s r Q qq => by
  obtain ⟨v, rfl, hu⟩ := ra_one r
  obtain ⟨a, h1, rfl⟩ := hu
  obtain ⟨vs, e1, e2⟩ := s.ob k a _ h1 hm
  refine .inl ⟨a, vs, rfl, .inl (SqL.of e1), ?_⟩
  rw [← e2.length]
  exact qq _ _ _ _ _ _ q (.refl o s) rfl
/-- list(tuple), a list that will change -/
theorem uc_listTM {l : List D} (k : Φ (.m M.length) (M ++ [.lst l])) : AC B K (kListOf K) [.d (.tup l)] M Φ := fun W μ H us o s r Q qq => by
  obtain ⟨v, rfl, r'⟩ := ra_one r
  obtain ⟨a, vs, rfl, h1, h2⟩ := r'
  refine ⟨a, vs, rfl, .inr (sqt_mono s.sub h1), fun p hp => ?_⟩
  refine qq _ _ _ _ _ _ k (go_mut (mo := .lst l) o s hp ⟨vs, upd_same, h2⟩) ⟨p, ?_, rfl⟩
  rw [← s.len, List.getElem?_append_right (Nat.le_refl _)]; simp
theorem uc_listT {l : List D} (k : Φ (.d (.lst l)) M) : AC B K (kListOf K) [.d (.tup l)] M Φ := fun W μ H us o s r Q qq => by
  obtain ⟨v, rfl, r'⟩ := ra_one r
  obtain ⟨a, vs, rfl, h1, h2⟩ := r'
  refine ⟨a, vs, rfl, .inr (sqt_mono s.sub h1), fun p hp => ?_⟩
  have g := go_new (u := .lst vs) o s hp
  exact qq _ _ _ _ _ _ k g ⟨p, vs, rfl, upd_same, h2.mono g.wext⟩
/-- tuple(range(n)) -/
theorem ae_tupRg1 (h : AE B K te σ M fun x M1 => ∃ n : Int, x = .d (.int n) ∧ 0 ≤ n ∧ n ≤ 16777216 ∧ Φ (.d (.tup (rngD 0 n.toNat))) M1) : AE B K (tTupRg (tRg1 te)) σ M Φ := fun W μ H τ o s e Q q =>
  h W μ H τ o s e _ fun x M1 W1 μ1 H1 v ⟨n, e1, h0, h1, p⟩ f1 r1 => by
    subst e1; cases r1
    refine ⟨n, rfl, RgOk.of_le (Int.le_refl 0) h1 (by omega) h0, fun a ha => ?_⟩
    have rr : RDs K W1 (rngD 0 n.toNat) (rgV 0 n) := by
      unfold rngD rgV
      rw [Int.sub_zero]
      have : ∀ m : List Nat, RDs K W1 (m.map fun (i : Nat) => D.int (0 + (i : Int))) (m.map fun i => V.int (0 + (i : Nat))) := fun m => by
        induction m with
        | nil => rfl
        | cons a m ih => exact ⟨_, _, rfl, rfl, ih⟩
      exact this _
    have g := go_new (u := .tup (rgV 0 n)) f1.ok f1.sim ha
    exact q _ _ _ _ _ _ p (f1.trans g) ⟨a, _, rfl, .inl (.inl upd_same), rr.mono g.wext⟩
/-- a comprehension of lists that will change, in a list that will change -/
theorem ae_lcLL {P : List MO → Prop} {wi : TI} {g : TG} {vs : List Nat} {n : Nat} (I : Nat → List MO → Prop) (gk : GK g vs) (hP : ∀ i M, I i M → P M)
    (h : AIP P B K wi σ M fun items M1 => M1.length = n ∧ I 0 (M1 ++ [.ls []]) ∧ (∀ i d M', items[i]? = some d → I i M' → AG B K g (.d d) (wipeA σ vs) M' fun σ2 M2 => AE B K te σ2 M2 fun y M4 => ∃ acc : List AV, M4[n]? = some (.ls acc) ∧ acc.length < sizeLine ∧ I (i + 1) (M4.set n (.ls (acc ++ [y])))) ∧
      (∀ M', I items.length M' → Φ (.m n) M')) : AE B K (tLc wi g tYes te vs) σ M Φ := fun W μ H τ o s e Q q =>
  h W μ H τ o s e _ fun items M1 W1 μ1 H1 J ⟨hl1, h0, hs, hd⟩ f1 ok Dd hD => by
    have hl : μ1.length = n := by rw [f1.sim.len]; exact hl1
    have g0 : Go B K W1 μ1 W1 (μ1 ++ [Dd]) (M1 ++ [.ls []]) (upd H1 Dd (.lst [])) := go_mut (mo := .ls []) f1.ok f1.sim hD ⟨[], upd_same, rfl⟩
    have hDk : (μ1 ++ [Dd])[n]? = some Dd := by rw [← hl, List.getElem?_append_right (Nat.le_refl _), Nat.sub_self]; rfl
    refine ⟨fun i m H' => m = items.length - i ∧ i ≤ items.length ∧ ∃ M' W' ext, I i M' ∧ Go B K W1 μ1 W' (μ1 ++ [Dd] ++ ext) M' H', ⟨items.length, rfl, Nat.zero_le _, _, W1, [], h0, by rw [List.append_nil]; exact g0⟩, ?_⟩
    rintro i m H' ⟨rfl, hi, M', W', ext, hi1, g1⟩
    have hok := ok W' H' M' ([Dd] ++ ext) g1.wext (by rw [← List.append_assoc]; exact g1.sim) (hP _ _ hi1)
    have hDk' : ∀ ext : List Addr, (μ1 ++ [Dd] ++ ext)[n]? = some Dd := fun ext => by
      rw [List.getElem?_append_left (by rw [List.length_append, hl]; exact Nat.lt_succ_self _)]
      exact hDk
    by_cases hlt : i < items.length
    · refine .inr ?_
      obtain ⟨hgo, hy⟩ := hok.1 i items[i] (List.getElem?_eq_getElem hlt)
      refine ⟨hgo, fun H2 => i + 1 ≤ items.length ∧ ∃ M' W' ext, I (i + 1) M' ∧ Go B K W1 μ1 W' (μ1 ++ [Dd] ++ ext) M' H2, fun H2 hN => ⟨items.length - (i + 1), by omega, rfl, hN⟩, fun x Hx hyx => ?_⟩
      obtain ⟨Wx, gx, rx⟩ := go_item g1.ok g1.sim (hy x Hx hyx)
      have ex := re_wipe ((g1.trans gx).re (f1.re e)) vs
      have hag := hs i _ M' (List.getElem?_eq_getElem hlt) hi1 Wx (μ1 ++ [Dd] ++ ext) Hx (wipe τ vs) x gx.ok gx.sim ex rx
      have key := gk x (wipe τ vs) Hx _ (hag (fun τ2 H2 => tYes τ2 H2 fun b H3 =>
          if b = true then te τ2 H3 fun y H4 => ∃ acc, H4 Dd = some (.lst acc) ∧ acc.length < sizeLine ∧ (i + 1 ≤ items.length ∧ ∃ M' W' ext, I (i + 1) M' ∧ Go B K W1 μ1 W' (μ1 ++ [Dd] ++ ext) M' (upd H4 Dd (.lst (acc ++ [y])))) else (i + 1 ≤ items.length ∧ ∃ M' W' ext, I (i + 1) M' ∧ Go B K W1 μ1 W' (μ1 ++ [Dd] ++ ext) M' H3)) fun σ2 M2 W2 μ2 H2 τ2 p2 f2 e2 => ?_)
      · rw [wipe_wipe] at key
        exact key
      · refine at_yes (Φ := fun b M3 => b = true ∧ M3 = M2) ⟨rfl, rfl⟩ W2 μ2 H2 τ2 f2.ok f2.sim e2 _ fun b M3 W3 μ3 H3 ⟨eb, eM⟩ f3 => ?_
        subst eb; subst eM
        refine iteT ?_
        have gx3 := f2.trans f3
        refine p2 W3 μ3 H3 τ2 f3.ok f3.sim (f3.re e2) _ fun y M4 W4 μ4 H4 v ⟨acc, hacc, hz, p5⟩ f4 r4 => ?_
        have gx4 := gx3.trans f4
        obtain ⟨ext2, he2⟩ := gx4.mext
        rw [List.append_assoc] at he2
        have hk4 : μ4[n]? = some Dd := by rw [he2]; exact hDk' (ext ++ ext2)
        obtain ⟨vs', h1, h2⟩ := f4.sim.ob n Dd (.ls acc) hk4 hacc
        have hv := r4
        have rv : RAs K W4 μ4 [y] [v] := ras_cons r4 (show RAs K W4 μ4 [] [] from rfl)
        have g5 := go_set (mo := .ls (acc ++ [y])) (u := .lst (vs' ++ [v])) f4.ok f4.sim hk4 ⟨_, upd_same, RAs.append h2 rv⟩
        refine ⟨vs', h1, by rw [← h2.length]; exact hz, hlt, _, W4, ext ++ ext2, p5, ?_⟩
        have gg := ((g1.trans gx).trans gx4).trans g5
        rw [he2] at gg
        exact gg
    · have hil : i = items.length := by omega
      subst hil
      exact .inl ⟨hok.2, q _ _ _ _ _ _ (hd _ hi1) (f1.trans g1) ⟨Dd, hDk' ext, rfl⟩⟩
/-- a test, an expression, cut off with its value -/
theorem at_is {tt : TT} {b0 : Bool} {Φ : Bool → List MO → Prop} (h : AT B K tt σ M fun b M1 => b = b0 ∧ M1 = M) (k : Φ b0 M) : AT B K tt σ M Φ := fun W μ H τ o s e Q q =>
  h W μ H τ o s e Q fun b M1 W1 μ1 H1 ⟨e1, e2⟩ f => q _ _ _ _ _ (by rw [e1, e2]; exact k) f
theorem ae_is {te : TE} {x : AV} {Φ : AV → List MO → Prop} (h : AE B K te σ M fun y M1 => y = x ∧ M1 = M) (k : Φ x M) : AE B K te σ M Φ := fun W μ H τ o s e Q q =>
  h W μ H τ o s e Q fun y M1 W1 μ1 H1 v ⟨e1, e2⟩ f r => q _ _ _ _ _ _ (by rw [e1, e2]; exact k) f r
end
end Al

/-! tuple * int, to ten thousand -/
namespace Al
open PySem PySem.Spec PyProof.Rows L2 Gx
variable [Al.TabList]
theorem gk_lst {K : PySem.W.Frag} {n : Nat} {gs : TGs} {vs : List Nat} (hs : GKs gs vs) : GK (gLst K n gs) vs := fun v τ H Q ⟨a, xs, e, h1, h2, q⟩ => ⟨a, xs, e, h1, h2, hs xs τ H Q q⟩
def rRepW (K : PySem.W.Frag) : R2 := fun x y H Q => ∃ l k xs, x = .ref l ∧ y = .int k ∧ SqT K H l xs ∧ xs ≠ [] ∧ 2 ≤ k ∧ k ≤ 10000 ∧ xs.length ≤ 100 ∧ ∀ p, H p = none → Q (.ref p) (upd H p (.tup (List.replicate k.toNat xs).flatten))
theorem op_repW (K : PySem.W.Frag) {X : Cx} (hK : X.K = K := by rfl) : OpR X (binaryOp .Mult) (rRepW K) := by
  subst hK
  intro pins s σ H x y v u Q I rx ry h
  obtain ⟨l, k, xs, rfl, rfl, hT, hne, h1, h2, hz, q⟩ := h
  cases rx
  obtain ⟨t, rfl⟩ := ry
  obtain ⟨its, r, ⟨⟨cls, dd, data, sl⟩, ho, hc, n, hd⟩, hs⟩ := I.tuple hT
  simp only at hc hd
  subst hc hd
  have hle : its.length = xs.length := r.length.symm
  obtain ⟨a, b, rfl⟩ : ∃ a b, its = a :: b := by
    cases its with
    | nil => exact absurd (List.eq_nil_of_length_eq_zero hle.symm) hne
    | cons a b => exact ⟨a, b, rfl⟩
  have hsz0 : (a :: b).toArray.size = xs.length := by rw [List.size_toArray, hle]
  have hx : 1 ≤ xs.length := by rw [← hle]; simp
  have hm : (((a :: b).toArray.size : Nat) : Int) * k ≤ 1000000 := by
    rw [hsz0]
    exact Int.le_trans (Int.mul_le_mul (by omega) h2 (by omega) (by omega) : ((xs.length : Nat) : Int) * k ≤ 100 * 10000) (by decide)
  have hk : k.toNat * xs.length ≤ 10000 * 100 := Nat.mul_le_mul (by omega) hz
  have flen : (List.replicate k.toNat (a :: b)).flatten.length ≤ sizeLine := by
    rw [PyProof.Rows.lm_len_rep_flat, hle, sizeLine_eq]
    omega
  have c4 : Builtin.Tuple.tupleTooMany ((((a :: b).toArray.size : Nat) : Int) * k) = false := by
    unfold Builtin.Tuple.tupleTooMany
    rw [sizeLine_eq]
    exact decide_eq_false (by omega)
  refine wpAny_binaryOp_repeat_ref (T := "tuple") (U := "int") (by decide) ⟨_, ho, rfl⟩ (fun s' => typeIs_int s' k t) noFill_tuple_mul F.fills_int_mul F.slot_int_rmul repeat_tuple F.slot_int_index.lookup
    (call_meets F.slot_int_rmul (typeIs_int s k t) F.entry_int_rmul (F.args_int_rmul_2 _ _) (int_rmul_tuple k t l (a :: b).toArray n dd sl)
      ⟨ho, rfl, ⟨_, ho, rfl⟩, call_meets F.slot_tuple_mul ⟨_, ho, rfl⟩ F.entry_tuple_mul (F.args_tuple_mul_2 _ _)
        (tuple_mulW l (a :: b).toArray n dd sl k t (by rw [decide_eq_false (by omega), decide_eq_false (by omega)]; rfl) (by show (false || _) = false; rw [Bool.false_or]; exact beq_eq_false_iff_ne.mpr (by omega))
          (by show (_ || false) = false; rw [Bool.or_false]; exact decide_eq_false (by omega)) (by omega) c4 (by rw [size_rep, List.size_toArray]; exact flen)) ⟨ho, ?_⟩⟩)
  rw [size_rep]
  refine ⟨.ref s.heap.objs.size, _, I.laid (t' := s.toks) (o := .tup (List.replicate k.toNat xs).flatten) (fun b ob q => Heap.get?_push_of_some _ q) (Nat.le_refl _) ?_, rfl, q _ (I.hok.fresh (Nat.le_refl _))⟩
  exact ⟨by rw [PyProof.Rows.lm_len_rep_flat, sizeLine_eq]; omega, _, r.rep k.toNat, IsTup.new _ _⟩
section
variable {B : Base} {K : PySem.W.Frag} {σ : AEnv} {M : List MO} {ta tb te tl : TE} {x y : AV} {Φ : AV → List MO → Prop}
theorem ar_repW {l : List D} {k : Int} (hl : l ≠ []) (h1 : 2 ≤ k) (h2 : k ≤ 10000) (hz : l.length ≤ 100) (q : Φ (.d (.tup (List.replicate k.toNat l).flatten)) M) : AR B K (rRepW K) (.d (.tup l)) (.d (.int k)) M Φ := fun W μ H u w o s hu hw Q qq => by
  obtain ⟨a, vs, rfl, e1, e2⟩ := hu
  cases hw
  refine ⟨a, k, vs, rfl, rfl, sqt_mono s.sub e1, fun e => hl (by rw [← List.length_eq_zero_iff, e2.length, e]; rfl), h1, h2, by rw [← e2.length]; exact hz, fun p hp => ?_⟩
  have g := go_new (u := .tup (List.replicate k.toNat vs).flatten) o s hp
  exact qq _ _ _ _ _ _ q g ⟨p, _, rfl, .inl (.inl upd_same), (e2.rep _).mono g.wext⟩
theorem ur_mulT {l : List D} {k : Int} (hl : l ≠ []) (h1 : 2 ≤ k) (h2 : k ≤ 1000) (hz : l.length ≤ 1000) (q : Φ (.d (.tup (List.replicate k.toNat l).flatten)) M) : AR B K (uMul K) (.d (.tup l)) (.d (.int k)) M Φ := fun W μ H u w o s hu hw Q qq => by
  obtain ⟨a, vs, rfl, e1, e2⟩ := hu
  cases hw
  refine .inr (.inr ⟨a, k, vs, rfl, rfl, sqt_mono s.sub e1, fun e => hl (by rw [← List.length_eq_zero_iff, e2.length, e]; rfl), h1, h2, by rw [← e2.length]; exact hz, fun p hp => ?_⟩)
  have g := go_new (u := .tup (List.replicate k.toNat vs).flatten) o s hp
  exact qq _ _ _ _ _ _ q g ⟨p, _, rfl, .inl (.inl upd_same), (e2.rep _).mono g.wext⟩
end
end Al

namespace Wd
open PySem PyProof.Rows L2 Al Gx
variable [Al.TabList]
theorem sc__law_whole : FnScope ["_law_thing"] ["_law_thing"] (defScope (top 29)) := ⟨rfl, rfl, rfl, by decide +kernel, rfl, by decide +kernel, by decide +kernel⟩
theorem sc__law_hears_right : FnScope ["_law_ears", "_law_many", "_law_k"] ["_law_ears", "_law_many"] (defScope (top 31)) := ⟨rfl, rfl, rfl, by decide +kernel, rfl, by decide +kernel, by decide +kernel⟩
theorem sc__law_size_right : FnScope ["_law_wide"] ["_law_wide"] (defScope (top 32)) := ⟨rfl, rfl, rfl, by decide +kernel, rfl, by decide +kernel, by decide +kernel⟩
theorem sc__law_rule_right : FnScope ["_law_rooms_here", "_law_room", "_law_ears", "_law_wide", "_law_begin", "_law_deed_of", "_law_rows", "_law_heard", "_law_mark"] ["_law_rooms_here", "_law_room"] (defScope (top 33)) := ⟨rfl, rfl, rfl, by decide +kernel, rfl, by decide +kernel, by decide +kernel⟩
theorem sc__law_due : FnScope ["_law_rooms_here", "_law_k", "_law_ears", "_law_wide", "_law_begin", "_law_deed_of"] ["_law_rooms_here"] (defScope (top 34)) := ⟨rfl, rfl, rfl, by decide +kernel, rfl, by decide +kernel, by decide +kernel⟩
theorem sc__law_refused : FnScope ["_law_thing", "e"] ["_law_thing"] (defScope (top 35)) := ⟨rfl, rfl, rfl, by decide +kernel, rfl, by decide +kernel, by decide +kernel⟩
def aInitN (K : PySem.W.Frag) (C CW CE : Addr) : ASp := fun xs M Φ Ψ => ∃ d : D, xs = [.m 0, .d d] ∧ M = [.ins CW [] []] ∧ ((∃ rs : List Rd, d = .tup (rs.map (Rd.d C)) ∧ (∀ x ∈ rs, x.Fine) ∧ rs.length ≤ 1000 ∧
  (match webD rs with | none => Φ (.d .non) [.ins CW ["kept"] [.d (.tup (rs.map (Rd.d C)))]] | some (k, s) => Ψ (CE, [("at", .int k), ("what", .str s)]) [.ins CW [] []])) ∨
  NotRooms K C d ∧ Ψ (CE, [("at", .int (-1)), ("what", .str "rooms")]) [.ins CW [] []])
theorem mono_initN {K : PySem.W.Frag} {C CW CE : Addr} : Mono (aInitN K C CW CE) := fun xs M Φ Φ' Ψ Ψ' h1 h2 ⟨d, e1, e2, h⟩ => ⟨d, e1, e2, h.imp (fun ⟨rs, e3, e4, e5, p⟩ => ⟨rs, e3, e4, e5, by
  cases e : webD rs with
  | none => rw [e] at p; exact h1 _ _ p
  | some q => rw [e] at p; exact h2 _ _ p⟩) fun ⟨e3, p⟩ => ⟨e3, h2 _ _ p⟩⟩
def optF : Option (Int × Str) → D | some (k, s) => .tup [.int k, .str s] | none => .non
def aRefused2 (K : PySem.W.Frag) (C : Addr) : ASp := fun xs M Φ _ => ∃ d : D, xs = [.d d] ∧ M = [] ∧ ((∃ rs : List Rd, d = .tup (rs.map (Rd.d C)) ∧ (∀ x ∈ rs, x.Fine) ∧ rs.length ≤ 1000 ∧ Φ (.d (optF (webD rs))) []) ∨
  NotRooms K C d ∧ Φ (.d (optF (some (-1, "rooms")))) [])
theorem mono_refused2 {K : PySem.W.Frag} {C : Addr} : Mono (aRefused2 K C) := fun xs M Φ Φ' Ψ Ψ' h1 h2 ⟨d, e1, e2, h⟩ => ⟨d, e1, e2, h.imp (fun ⟨rs, e3, e4, e5, p⟩ => ⟨rs, e3, e4, e5, h1 _ _ p⟩) fun ⟨e3, p⟩ => ⟨e3, h1 _ _ p⟩⟩
/-- what is asked of NoWeb -/
structure NoWebX (K : PySem.W.Frag) (mg : Str → Option Value) (C_NoWeb C_NoRoom C_NoBeat C_NoStand C_NoTable C_NoText : Addr) : Prop where
  cX : mg "NoWeb" = some (.ref C_NoWeb)
  cR : mg "NoRoom" = some (.ref C_NoRoom)
  cB : mg "NoBeat" = some (.ref C_NoBeat)
  cS : mg "NoStand" = some (.ref C_NoStand)
  cT : mg "NoTable" = some (.ref C_NoTable)
  cN : mg "NoText" = some (.ref C_NoText)
  ex : ExK K C_NoWeb
  no1 : PySem.W.findIn K (.ref C_NoWeb) "at" = some none
  no2 : PySem.W.findIn K (.ref C_NoWeb) "what" = some none
  me : PySem.W.exmOne K (.ref C_NoWeb) (.ref C_NoWeb) = some true
  ty : PySem.W.kitOne K (.ref C_NoWeb) (.type "ValueError") = some true
  nt : PySem.W.kitAny K (.ref C_NoWeb) [.ref C_NoRoom, .ref C_NoBeat, .ref C_NoStand, .ref C_NoTable, .ref C_NoText] = some false
/-- a room as the law puts it -/
def Rd.l (x : Rd) : D := .lst [x.h, x.s, x.f, x.r]
structure Rd.Good (x : Rd) : Prop where
  h : flats x.h = true
  s : flatD x.s = true
  f : flatD x.f = true
  r : ∃ l, x.r = .tup l ∧ l.all flatD = true ∧ l.length ≤ 5000
theorem Rd.Good.fine {x : Rd} (g : x.Good) : x.Fine := by
  obtain ⟨l, e, hl, _⟩ := g.r
  exact ⟨g.h, g.s, g.f, .inl (by rw [e]; exact hl)⟩
theorem rt_dM {Φ : AV → List MO → Prop} {d : D} {M : List MO} (h : Φ (.d d) []) : RT 0 Φ (.d d) M := Or.inl ⟨0, .d d, Nat.le_refl _, .dat, by simp, h⟩
def aHearsR : ASp := fun xs M Φ _ => ∃ (x : D) (many : Int), xs = [.d x, .d (.int many)] ∧ M = [] ∧ flats x = true ∧ Φ (.d (.bl (hearsB many x))) []
theorem mono_hearsR : Mono aHearsR := fun xs M Φ Φ' Ψ Ψ' h1 _ ⟨x, n, e1, e2, e3, p⟩ => ⟨x, n, e1, e2, e3, h1 _ _ p⟩
def aRuleR : ASp := fun xs M Φ _ => ∃ (rs : List Rd) (x : Rd), xs = [.d (.lst (rs.map Rd.l)), .d x.l] ∧ M = [] ∧ (∀ y ∈ rs, y.Good) ∧ x.Good ∧ hearsB rs.length x.h = true ∧ fromB 1 60 x.s = true ∧ Φ (.d (.bl (ruleB rs x))) []
theorem mono_ruleR : Mono aRuleR := fun xs M Φ Φ' Ψ Ψ' h1 _ ⟨rs, x, e1, e2, e3, e4, e5, e6, p⟩ => ⟨rs, x, e1, e2, e3, e4, e5, e6, h1 _ _ p⟩
def aDue2 : ASp := fun xs M Φ _ => ∃ (rs : List Rd), xs = [.d (.lst (rs.map Rd.l))] ∧ M = [] ∧ (∀ y ∈ rs, y.Good) ∧ rs.length ≤ 1000 ∧ Φ (.d (optF (firstF rs 0 rs))) []
theorem mono_due2 : Mono aDue2 := fun xs M Φ Φ' Ψ Ψ' h1 _ ⟨rs, e1, e2, e3, e4, p⟩ => ⟨rs, e1, e2, e3, e4, h1 _ _ p⟩
theorem hears_bad {l : List D} {i : Nat} {y : D} {many : Int} (h : l[i]? = some y) (hb : fromB 0 (many - 1) y = false ∨ toI y ∈ (l.take i).map toI) : hearsB many (.tup l) = false := by
  show (decide (l.length ≤ 3) && (l.all (fromB 0 (many - 1)) && decide (l.map toI).Nodup)) = false
  rcases hb with hb | hb
  · have : l.all (fromB 0 (many - 1)) = false := by
      cases e : l.all (fromB 0 (many - 1)) with
      | false => rfl
      | true => rw [List.all_eq_true.mp e y (List.mem_of_getElem? h)] at hb; cases hb
    rw [this, Bool.false_and, Bool.and_false]
  · have : ¬ (l.map toI).Nodup := fun nd => by
      have hlt := (List.getElem?_eq_some_iff.mp h).1
      have e : l.map toI = (l.take i).map toI ++ toI y :: (l.drop (i + 1)).map toI := by
        rw [← List.map_cons, ← List.map_append]
        congr 1
        have : l.drop i = y :: l.drop (i + 1) := by
          rw [List.drop_eq_getElem_cons hlt]
          rw [List.getElem?_eq_getElem hlt] at h
          cases h; rfl
        rw [← this, List.take_append_drop]
      rw [e, List.nodup_append] at nd
      exact nd.2.2 _ hb _ List.mem_cons_self rfl
    rw [decide_eq_false this, Bool.and_false, Bool.and_false]
theorem take_nodup {l : List D} {i : Nat} {y : D} (h : l[i]? = some y) (nd : ((l.take i).map toI).Nodup) (hn : ¬ toI y ∈ (l.take i).map toI) : ((l.take (i + 1)).map toI).Nodup := by
  rw [List.take_add_one, h, List.map_append, List.nodup_append]
  refine ⟨nd, by simp, fun a ha b hb e => ?_⟩
  have : b = toI y := by simpa using hb
  exact hn (this ▸ e ▸ ha)
local macro_rules | `(tactic| walk_at "alside") => `(tactic| first
  | decide
  | (dsimp only; decide)
  | exact Or.inr (by decide)
  | exact Or.inl (by decide)
  | (dsimp only; omega)
  | (unfold CDiv; omega)
  | (unfold CPow; omega)
  | (unfold CMul; omega)
  | assumption)
local macro_rules | `(tactic| walk_at "al1") => `(tactic| first
  | with_reducible refine as_asg ?_
  | with_reducible refine as_drop ?_
  | with_reducible refine as_ret ?_
  | with_reducible refine as_if ?_
  | with_reducible refine as_next ?_
  | with_reducible refine at_test ?_
  | with_reducible refine at_b ?_
  | with_reducible refine at_and ?_
  | with_reducible refine at_or ?_
  | with_reducible refine at_not ?_
  | with_reducible refine ae_op ?_
  | with_reducible refine ae_un ?_
  | with_reducible refine ae_cb ?_
  | with_reducible refine ae_if ?_
  | with_reducible refine ae_andV ?_
  | with_reducible refine ae_orV ?_
  | with_reducible refine ae_notV ?_
  | with_reducible refine ae_chain ?_
  | with_reducible refine ae_int ?_
  | with_reducible refine ae_bl ?_
  | with_reducible refine ae_non ?_
  | with_reducible refine ae_str ?_
  | with_reducible refine ae_ty ?_
  | with_reducible refine ae_adr ?_
  | with_reducible refine aa_nil ?_
  | with_reducible refine aa_cons ?_
  | with_reducible refine ag_name ?_
  | with_reducible refine ag_sub ?_
  | with_reducible refine at_yes ?_
  | ((with_reducible show AE _ _ (tVar _) _ _ _); refine ae_var rfl ?_)
  | ((with_reducible show AR _ _ (uAdd _) _ _ _ _); refine ur_addI ?_)
  | ((with_reducible show AR _ _ (uMul _) _ _ _ _); refine ur_mulI (by walk_at "alside") ?_)
  | ((with_reducible show AR _ _ (uEq _) _ _ _ _); first | refine ur_eqI ?_ | refine ur_eqS ?_ | refine ur_eqB ?_)
  | ((with_reducible show AR _ _ (uNe _) _ _ _ _); first | refine ur_neI ?_ | refine ur_neS ?_ | refine ur_neB ?_)
  | ((with_reducible show AR _ _ (rIx _) _ _ _ _); first | refine ur_ixM rfl rfl ?_ | refine ur_ixL rfl ?_ | refine ur_ixT rfl ?_ | refine ur_ixS rfl ?_)
  | ((with_reducible show AC _ _ (uLen _) _ _ _); first | refine uc_len (.tup _) ?_ | refine uc_len (.lst _) ?_ | refine uc_len (.scr _) ?_ | refine uc_len (.mm rfl) ?_)
  | ((with_reducible show AR _ _ (rI0 _) _ _ _ _); first | with_reducible refine ar_i0 ?_ | with_reducible refine ar_b0 ?_)
  | ((with_reducible show AU _ _ (rU _) _ _ _); with_reducible refine au_i ?_)
  | ((with_reducible show AR _ _ (rI _ _) _ _ _ _); refine ar_i (by walk_at "alside") ?_)
  | ((with_reducible show AR _ _ (rIxL _) _ _ _ _); first | refine ar_ixM rfl rfl ?_ | refine ar_ixL rfl ?_ | refine ar_ixS rfl ?_)
  | ((with_reducible show AR _ _ (rIxT _) _ _ _ _); refine ar_ixT rfl ?_)
  | ((with_reducible show AR _ _ rEq _ _ _ _); first | with_reducible refine ar_eqI ?_ | with_reducible refine ar_eqS ?_ | with_reducible refine ar_eqB ?_)
  | ((with_reducible show AR _ _ rNe _ _ _ _); first | with_reducible refine ar_neI ?_ | with_reducible refine ar_neS ?_ | with_reducible refine ar_neB ?_))
local macro_rules | `(tactic| walk_at "alds") => `(tactic| first
  | refine ⟨[], rfl, Nat.le_of_ble_eq_true rfl, ?_⟩
  | refine ⟨[_], rfl, Nat.le_of_ble_eq_true rfl, ?_⟩
  | refine ⟨[_, _], rfl, Nat.le_of_ble_eq_true rfl, ?_⟩
  | refine ⟨[_, _, _], rfl, Nat.le_of_ble_eq_true rfl, ?_⟩
  | refine ⟨[_, _, _, _], rfl, Nat.le_of_ble_eq_true rfl, ?_⟩
  | refine ⟨[_, _, _, _, _], rfl, Nat.le_of_ble_eq_true rfl, ?_⟩
  | refine ⟨[_, _, _, _, _, _], rfl, Nat.le_of_ble_eq_true rfl, ?_⟩
  | refine ⟨[_, _, _, _, _, _, _], rfl, Nat.le_of_ble_eq_true rfl, ?_⟩
  | refine ⟨[_, _, _, _, _, _, _, _], rfl, Nat.le_of_ble_eq_true rfl, ?_⟩
  | refine ⟨[_, _, _, _, _, _, _, _, _], rfl, Nat.le_of_ble_eq_true rfl, ?_⟩
  | refine ⟨[_, _, _, _, _, _, _, _, _, _], rfl, Nat.le_of_ble_eq_true rfl, ?_⟩
  | refine ⟨[_, _, _, _, _, _, _, _, _, _, _], rfl, Nat.le_of_ble_eq_true rfl, ?_⟩
  | refine ⟨[_, _, _, _, _, _, _, _, _, _, _, _], rfl, Nat.le_of_ble_eq_true rfl, ?_⟩)
local macro_rules | `(tactic| walk_at "alc") => `(tactic| refine ae_call0 (Ψ := fun _ _ => False) (by walk_at "almono") efits_none ?_)
local macro_rules | `(tactic| walk_at "al") => `(tactic| repeat (first | walk_at "al1" | with_reducible refine as_seq ?_ | with_reducible refine ae_tup ?_ | with_reducible walk_at "alc" | refine ⟨_, rfl, ?_⟩ | walk_at "alds" | refine ⟨_, _, _, _, _, rfl, rfl, rfl, rfl, rfl, ?_⟩))
local macro_rules | `(tactic| walk_at "alF") => `(tactic| repeat (first | walk_at "al1" | with_reducible refine as_seq ?_ | with_reducible refine ae_tup ?_ | with_reducible refine ae_lst ?_ | with_reducible walk_at "alc" | refine ⟨_, rfl, ?_⟩ | walk_at "alds" | refine ⟨_, _, _, _, _, rfl, rfl, rfl, rfl, rfl, ?_⟩))
local macro_rules | `(tactic| walk_at "alo") => `(tactic| repeat (first | walk_at "al1" | with_reducible refine ae_tup ?_ | with_reducible walk_at "alc" | refine ⟨_, rfl, ?_⟩ | walk_at "alds" | refine ⟨_, _, _, _, _, rfl, rfl, rfl, rfl, rfl, ?_⟩))
local macro_rules | `(tactic| walk_at "almono") => `(tactic| first | exact mono_whole | exact mono_size | exact mono_hearsR | exact mono_ruleR)
section
variable {P : Program} {w : World} {K : PySem.W.Frag} {mg : Str → Option Value} {base : Heap} {C_Room C_Web C_NoWeb : Addr}
theorem ok_initN {kws : List KwE} (D : MkDef K mg C_Web "Web" "Web.__init__" (inClass (top 23) 0) ["self", "rooms"] kws) (W : WebC K C_Web) (G_look_rooms : FnAt P w K mg base (L2.CX P w) 7 "look_rooms" ["rooms"] (aLook K C_Room C_NoWeb)) :
    MkAt P w K mg base (L2.CX P w) 8 C_Web "Web" ["self", "rooms"] (aInitN K C_Room C_Web C_NoWeb) kws := by
  refine mkatX D sc_Web___init__ (fun xs M Φ Ψ h => ?_) (fun f cdv A outer s H E hr => ⟨_, (pss_cons (ps_expr (pe_fn G_look_rooms (hr.mono (by decide)) rfl (passes_call (takes_of rfl rfl rfl rfl) (fun _ _ _ _ h => h)) (pa_cons (pv 1) pa_nil))) (pss_one (ps_fld (pv 0) (pv 1) rfl))), fun B xs M Φ Ψ hB h hE => ?_⟩)
  · obtain ⟨d, rfl, _⟩ := h
    rfl
  · obtain ⟨d, rfl, rfl, h⟩ := h
    walk_at "al"
    refine ae_call0 (Ψ := XT 1 Ψ) mono_look hE ?_
    walk_at "al"
    refine sent0 (ys := [d]) mono_look ?_
    rcases h with ⟨rs, rfl, hf, hbig, p⟩ | ⟨hn, p⟩
    · refine .inl ⟨rs, rfl, rfl, hf, hbig, ?_⟩
      cases e : webD rs with
      | none =>
        rw [e] at p
        refine ⟨rfl, _, rfl, ?_⟩
        refine as_fld (ae_var rfl (ae_var rfl ⟨0, C_Web, [], [], rfl, rfl, W.cl, W.kept, by simp, by decide, ?_⟩))
        exact Or.inl ⟨1, .d .non, Nat.le_refl _, .dat, by simp [MO.below, AV.below], p⟩
      | some q =>
        rw [e] at p
        exact ⟨rfl, 1, Nat.le_refl _, by simp [MO.below], p⟩
    · exact .inr ⟨d, rfl, rfl, hn, rfl, 1, Nat.le_refl _, by simp [MO.below], p⟩
theorem ok_lwhole (D : DefAt K mg "_law_whole" (top 29) ["_law_thing"]) (T : Bt mg) : FnAt P w K mg base CX0 1 "_law_whole" ["_law_thing"] aWhole := by
  refine fnat D sc__law_whole (fun xs M Φ Ψ h => ?_) (fun f cdv A outer s H E hr => ⟨_, (pss_one (ps_ret (pe_and (pe_callB (k_isi K) (by rfl) T.isinstance (by decide +kernel) (pa_cons (pv 0) (pa_cons (pe_bltn (v := .ty "int") (by rfl) T.int (by decide +kernel) rfl) pa_nil))) (pe_one (pe_not (pe_callB (k_isi K) (by rfl) T.isinstance (by decide +kernel) (pa_cons (pv 0) (pa_cons (pe_bltn (v := .ty "bool") (by rfl) T.bool (by decide +kernel) rfl) pa_nil)))))))), fun B xs M Φ Ψ hB h => ?_⟩)
  · obtain ⟨x, rfl, _⟩ := h
    rfl
  · obtain ⟨x, rfl, rfl, hx, p⟩ := h
    walk_at "al"
    cases x with
    | bl b =>
      refine uc_isiB True.intro (b := true) (kit_ty (by decide +kernel)) ⟨_, rfl, fun _ => ?_, (fun z => nomatch z)⟩
      walk_at "al"
      refine uc_isiB True.intro (b := true) (kit_ty (by decide +kernel)) ⟨_, rfl, ?_⟩
      exact rt_d p
    | int i =>
      refine uc_isiB True.intro (b := true) (kit_ty (by decide +kernel)) ⟨_, rfl, fun _ => ?_, (fun z => nomatch z)⟩
      walk_at "al"
      refine uc_isiB True.intro (b := false) (kit_ty (by decide +kernel)) ⟨_, rfl, ?_⟩
      exact rt_d p
    | _ =>
      first
      | (refine uc_isiB True.intro (b := false) (kit_ty (by decide +kernel)) ⟨_, rfl, (fun z => nomatch z), fun _ => ?_⟩
         exact rt_d p)
      | cases hx
theorem ok_lsize (D : DefAt K mg "_law_size_right" (top 32) ["_law_wide"]) (T : Bt mg) (G__law_whole : FnAt P w K mg base CX0 1 "_law_whole" ["_law_thing"] aWhole) : FnAt P w K mg base CX0 2 "_law_size_right" ["_law_wide"] aSize := by
  refine fnat D sc__law_size_right (fun xs M Φ Ψ h => ?_) (fun f cdv A outer s H E hr => ⟨_, (pss_one (ps_ret (pe_and (pe_fn G__law_whole (hr.mono (by decide)) rfl pass0 (pa_cons (pv 0) pa_nil)) (pe_one (pe_chain op_le op_le pe_int (pv 0) pe_int))))), fun B xs M Φ Ψ hB h => ?_⟩)
  · obtain ⟨x, rfl, _⟩ := h
    rfl
  · obtain ⟨x, rfl, rfl, hx, p⟩ := h
    walk_at "al"
    refine sent0 (ys := [x]) mono_whole ?_
    refine ⟨x, rfl, rfl, hx, rfl, _, rfl, _, rfl, fun hw => ?_, fun hw => ?_⟩
    · cases x with
      | int i =>
        walk_at "al"
        refine ⟨fun h1 => ?_, fun h1 => ?_⟩
        · walk_at "al"
          have : fromB 1 60 (.int i) = decide (i ≤ 60) := by show (decide (1 ≤ i) && _) = _; rw [h1]; rfl
          rw [this] at p
          exact rt_d p
        · have : fromB 1 60 (.int i) = false := by show (decide (1 ≤ i) && _) = _; rw [h1]; rfl
          rw [this] at p
          exact rt_d p
      | _ => cases hw
    · have : fromB 1 60 x = false := by cases x <;> first | rfl | cases hw
      rw [this] at p
      exact rt_d p
theorem ok_lhears (D : DefAt K mg "_law_hears_right" (top 31) ["_law_ears", "_law_many"]) (T : Bt mg) (G__law_whole : FnAt P w K mg base CX0 1 "_law_whole" ["_law_thing"] aWhole) : FnAt P w K mg base CX0 2 "_law_hears_right" ["_law_ears", "_law_many"] aHearsR := by
  refine fnat D sc__law_hears_right (fun xs M Φ Ψ h => ?_) (fun f cdv A outer s H E hr => ⟨_, (pss_cons (ps_if (PW.pt (pw_or (pt_not (pt_val (pe_callB (k_isi K) (by rfl) T.isinstance (by decide +kernel) (pa_cons (pv 0) (pa_cons (pe_bltn (v := .ty "tuple") (by rfl) T.tuple (by decide +kernel) rfl) pa_nil))))) (pw_or1 (pt_cmpR op_gt (pe_callB (k_len K) (by rfl) T.len (by decide +kernel) (pa_cons (pv 0) pa_nil)) pe_int (nomark _))))) (pss_one (ps_ret pe_bl)) pss_nil) (pss_cons (ps_for PassesOwn.never rfl (pi_range1 rfl T.range (pa_cons (pe_callB (k_len K) (by rfl) T.len (by decide +kernel) (pa_cons (pv 0) pa_nil)) pa_nil)) (pg_name (i := 2) sc__law_hears_right.nd rfl (Or.inl rfl)) (pss_one (ps_if (PW.pt (pw_or (pt_not (pt_val (pe_fn G__law_whole (hr.mono (by decide)) rfl pass0 (pa_cons (pe_ix (k_ix K) (pv 0) (pv 2) (fun _ _ => rfl)) pa_nil)))) (pw_or (pt_not (pt_chain op_le op_lt pe_int (pe_ix (k_ix K) (pv 0) (pv 2) (fun _ _ => rfl)) (pv 1))) (pw_or1 (pt_cmpR (k_in K) (pe_ix (k_ix K) (pv 0) (pv 2) (fun _ _ => rfl)) (pe_slice (k_slA K) (pv 0) po_none (po_some (pv 2))) (by rfl)))))) (pss_one (ps_ret pe_bl)) pss_nil))) (pss_one (ps_ret pe_bl)))), fun B xs M Φ Ψ hB h => ?_⟩)
  · obtain ⟨x, n, rfl, _⟩ := h
    rfl
  · obtain ⟨x, many, rfl, rfl, hx, p⟩ := h
    walk_at "al"
    refine uc_isiB (flat_ty (flats_flat hx)) (tup_ty (flats_flat hx)) ⟨_, rfl, fun hb => ?_, fun hb => ?_⟩
    · refine ⟨fun _ => ?_, (fun z => nomatch z)⟩
      walk_at "al"
      have e : hearsB many x = false := by cases x <;> first | rfl | exact absurd hb (by simp [tupB])
      rw [e] at p
      exact rt_d p
    · cases x with
      | tup l =>
        walk_at "al"
        refine ⟨fun h3 => ?_, fun h3 => ?_⟩
        · walk_at "al"
          have h3 : 3 < (l.length : Int) := of_decide_eq_true h3
          have e : hearsB many (.tup l) = false := by show (decide (l.length ≤ 3) && _) = false; rw [decide_eq_false (by omega)]; rfl
          rw [e] at p
          exact rt_d p
        · have h3 : ¬ (3 < (l.length : Int)) := of_decide_eq_false h3
          refine as_next ?_
          refine as_seq (as_for (n := 0) (fun i σ M => M = [] ∧ (∃ a, σ = [some (.d (.tup l)), some (.d (.int many)), a]) ∧ (l.take i).all (fromB 0 (many - 1)) = true ∧ ((l.take i).map toI).Nodup) (fun i σ M e => by rw [e.1]; rfl) (ai_rng1 ?_))
          walk_at "al"
          refine ⟨by omega, by omega, ⟨rfl, ⟨none, rfl⟩, rfl, List.nodup_nil⟩, fun i d σ' M' hd hi => ?_, fun σ' M' hi => ?_⟩
          · obtain ⟨rfl, ⟨a, rfl⟩, hall, hnd⟩ := hi
            obtain ⟨hlt, rfl⟩ := rngD_get hd
            have hlt : i < l.length := by omega
            have hx1 : l[i]? = some l[i] := List.getElem?_eq_getElem hlt
            generalize hy : l[i] = y at hx1
            have hfy : flatD y = true := List.all_eq_true.mp hx y (List.mem_of_getElem? hx1)
            rw [Int.zero_add]
            have hix : atI l (i : Int) = some y := atI_natD hx1
            walk_at "al"
            refine ur_ixT hix ?_
            walk_at "al"
            refine sent0 (ys := [y]) mono_whole ?_
            have bad : fromB 0 (many - 1) y = false ∨ toI y ∈ (l.take i).map toI → RT 0 Φ (.d (.bl false)) [] := fun hb => by
              rw [hears_bad hx1 hb] at p
              exact rt_d p
            refine ⟨y, rfl, rfl, hfy, rfl, _, rfl, _, rfl, fun hw => ?_, fun hw => ?_⟩
            · refine ⟨fun _ => ?_, (fun z => nomatch z)⟩
              walk_at "al"
              exact bad (.inl (by cases y <;> first | rfl | cases hw))
            · cases y with
              | int j =>
                walk_at "al"
                refine ur_ixT hix ?_
                walk_at "al"
                have from_ : ∀ j : Int, fromB 0 (many - 1) (.int j) = (decide (0 ≤ j) && decide (j < many)) := fun j => by
                  show (decide (0 ≤ j) && decide (j ≤ many - 1)) = _
                  congr 1
                  exact decide_eq_decide.mpr (by omega)
                refine ⟨fun h0 => ?_, fun h0 => ⟨_, rfl, fun _ => ⟨fun _ => ?_, (fun z => nomatch z)⟩, (fun z => nomatch z)⟩⟩
                · walk_at "al"
                  refine ⟨fun h1 => ⟨fun _ => ?_, (fun z => nomatch z)⟩, fun h1 => ?_⟩
                  · walk_at "al"
                    exact bad (.inl (by rw [from_, h0, Bool.true_and]; simpa using h1))
                  · have hfr : fromB 0 (many - 1) (.int j) = true := by rw [from_, h0, Bool.true_and]; simpa using h1
                    walk_at "al"
                    refine ur_ixT hix ?_
                    walk_at "al"
                    refine ae_sliceTA (ae_var rfl ⟨_, rfl, ao_none (ao_some (ae_var rfl ⟨_, rfl, ?_⟩))⟩)
                    rw [cutL_lo, ints_of hall]
                    refine ur_inI (.tup _) ?_
                    rw [if_neg (by decide)]
                    refine ⟨_, rfl, fun h2 => ?_, fun h2 => as_next ?_⟩
                    · walk_at "al"
                      exact bad (.inr (of_decide_eq_true h2))
                    · have h2 := of_decide_eq_false h2
                      refine ⟨by simp, rfl, ⟨_, rfl⟩, ?_, take_nodup hx1 hnd h2⟩
                      rw [List.take_add_one, hx1, List.all_append, hall]
                      simpa using hfr
                · walk_at "al"
                  exact bad (.inl (by rw [from_, h0, Bool.false_and]))
              | _ => cases hw
          · obtain ⟨rfl, ⟨a, rfl⟩, hall, hnd⟩ := hi
            rw [rngD_len, Int.toNat_natCast, List.take_length] at hall hnd
            walk_at "al"
            have e : hearsB many (.tup l) = true := by
              show (decide (l.length ≤ 3) && (l.all _ && decide (l.map toI).Nodup)) = true
              rw [hall, decide_eq_true hnd, decide_eq_true (by omega)]; rfl
            rw [e] at p
            exact rt_d p
      | _ => exact absurd hb (by simp [tupB])
theorem ok_lrule (D : DefAt K mg "_law_rule_right" (top 33) ["_law_rooms_here", "_law_room"]) (T : Bt mg) (G__law_whole : FnAt P w K mg base CX0 1 "_law_whole" ["_law_thing"] aWhole) (G__law_size_right : FnAt P w K mg base CX0 2 "_law_size_right" ["_law_wide"] aSize) :
    FnAt P w K mg base CX0 3 "_law_rule_right" ["_law_rooms_here", "_law_room"] aRuleR := by
  refine fnat D sc__law_rule_right (fun xs M Φ Ψ h => ?_) (fun f cdv A outer s H E hr => ⟨_, (pss_cons (ps_asg (pv 1) (pg_lstK (n := 4) K rfl (pgs_cons (pg_name (i := 2) sc__law_rule_right.nd rfl (Or.inl rfl)) (pgs_cons (pg_name (i := 3) sc__law_rule_right.nd rfl (Or.inr rfl)) (pgs_cons (pg_name (i := 4) sc__law_rule_right.nd rfl (Or.inl rfl)) (pgs_cons (pg_name (i := 5) sc__law_rule_right.nd rfl (Or.inl rfl)) pgs_nil)))))) (pss_cons (ps_set (i := 6) sc__law_rule_right.nd rfl (Or.inl rfl) pe_int) (pss_cons (ps_for PassesOwn.never rfl (pi_seqK K (pv 2)) (pg_name (i := 7) sc__law_rule_right.nd rfl (Or.inl rfl)) (pss_cons (ps_if (pt_not (pt_val (pe_fn G__law_size_right (hr.mono (by decide)) rfl pass0 (pa_cons (pe_ix (k_ix K) (pe_ix (k_ix K) (pv 0) (pv 7) (fun _ _ => rfl)) pe_int (fun _ _ => rfl)) pa_nil)))) (pss_one (ps_ret pe_bl)) pss_nil) (pss_one (ps_set (i := 6) sc__law_rule_right.nd rfl (Or.inl rfl) (pe_op (k_mul K) (pv 6) (pe_ix (k_ix K) (pe_ix (k_ix K) (pv 0) (pv 7) (fun _ _ => rfl)) pe_int (fun _ _ => rfl))))))) (pss_cons (ps_if (PW.pt (pw_or (pt_cmpR (k_ne K hr.units) (pe_callB (k_len K) (by rfl) T.len (by decide +kernel) (pa_cons (pv 5) pa_nil)) (pv 6) (nomark _)) (pw_or1 (pt_cmpR op_gt (pv 6) pe_int (nomark _))))) (pss_one (ps_ret pe_bl)) pss_nil) (pss_one (ps_ret (pe_callB (k_all K rfl) (by rfl) T.all (by decide +kernel) (pa_cons (pe_lc (own := [("_law_mark", 8)]) rfl sc__law_rule_right.nd (pi_seqK K (pv 5)) (blkOk_by (own := [("_law_mark", 8)]) (N := ["_law_rooms_here", "_law_room", "_law_ears", "_law_wide", "_law_begin", "_law_deed_of", "_law_rows", "_law_heard", "_law_mark"]) (sc := defScope (top 33)) (by decide +kernel)) (fun _ _ _ _ _ => by exact (pg_name (i := 8) sc__law_rule_right.nd rfl (Or.inl rfl))) (fun _ _ _ _ _ => by exact pts_nil) (fun _ _ _ _ _ => by exact (pe_and (pe_fn G__law_whole (hr.mono (by decide)) rfl pass0 (pa_cons (pv 8) pa_nil)) (pe_one (pe_chain op_le op_lt pe_int (pv 8) (pv 3)))))) pa_nil)))))))), fun B xs M Φ Ψ hB h => ?_⟩)
  · obtain ⟨rs, x, rfl, _⟩ := h
    rfl
  · obtain ⟨rs, x, rfl, rfl, hg, hx, hh, hs, p⟩ := h
    obtain ⟨l, eh, h3, hl, _⟩ := hears_in hh
    obtain ⟨sz, es, s1, s60⟩ := size_in hs
    obtain ⟨tl, er, hfl, hlen⟩ := hx.r
    obtain ⟨xh, xs, xf, xr⟩ := x
    dsimp only at eh es er
    subst eh es er
    refine as_seq (as_asg (ae_var rfl (ag_lst rfl (ags_cons (ag_name (ags_cons (ag_name (ags_cons (ag_name (ags_cons (ag_name (ags_nil ?_))))))))))))
    refine as_seq (as_asgN (ae_int ?_))
    refine as_seq (as_for (n := 0) (fun i σ M => ∃ (acc : Int) (r m : Option AV), M = [] ∧ σ = [some (.d (.lst (rs.map Rd.l))), some (.d (Rd.l ⟨.tup l, .int sz, xf, .tup tl⟩)), some (.d (.tup l)), some (.d (.int sz)), some (.d xf), some (.d (.tup tl)), some (.d (.int acc)), r, m] ∧ rowsD rs l 1 = rowsD rs (l.drop i) acc ∧ 0 ≤ acc ∧ acc ≤ 60 ^ i ∧ i ≤ 3)
      (fun i σ M ⟨acc, r, m, e, _⟩ => by rw [e]; rfl) (ai_seqT (ae_var rfl ⟨l, rfl, ⟨1, none, none, rfl, rfl, rfl, by decide, by decide, by decide⟩, fun i d σ' M' hd hi => ?_, fun σ' M' hi => ?_⟩)))
    · obtain ⟨acc, r, m, rfl, rfl, e, h0, h60, hi3⟩ := hi
      have hlt := (List.getElem?_eq_some_iff.mp hd).1
      have hdr : l.drop i = d :: l.drop (i + 1) := by
        rw [List.drop_eq_getElem_cons hlt]
        rw [List.getElem?_eq_getElem hlt] at hd
        cases hd; rfl
      obtain ⟨k, rfl, hk⟩ := ear_in (List.all_eq_true.mp hl d (List.mem_of_getElem? hd))
      have hkl : k < rs.length := by omega
      have hx : rs[k]? = some rs[k] := List.getElem?_eq_getElem hkl
      have hgood := hg _ (List.getElem_mem hkl)
      have e2 : rowsD rs l 1 = if fromB 1 60 rs[k].s = true then rowsD rs (l.drop (i + 1)) (acc * toI rs[k].s) else none := by
        rw [e, hdr]
        show (match rs[((k : Nat) : Int).toNat]? with | some x => _ | none => _) = _
        rw [Int.toNat_natCast, hx]
      have hac : acc ≤ 216000 := by
        have : i = 0 ∨ i = 1 ∨ i = 2 := by omega
        rcases this with rfl | rfl | rfl
        · exact Int.le_trans h60 (by decide)
        · exact Int.le_trans h60 (by decide)
        · exact Int.le_trans h60 (by decide)
      have hrm : atI (rs.map Rd.l) (k : Int) = some rs[k].l := atI_natD (by rw [List.getElem?_map, hx]; rfl)
      walk_at "al"
      refine ur_ixL hrm ?_
      walk_at "al"
      refine sent0 (ys := [rs[k].s]) mono_size ?_
      refine ⟨rs[k].s, rfl, rfl, hgood.s, rfl, _, rfl, _, rfl, iteB (fun hs => ?_) fun hs => ?_⟩
      · have hs : fromB 1 60 rs[k].s = false := by simpa using hs
        walk_at "al"
        rw [show ruleB rs ⟨.tup l, .int sz, xf, .tup tl⟩ = true from by
          show (match rowsD rs l 1 with | some n => _ | none => true) = true
          rw [e2, if_neg (by rw [hs]; exact Bool.false_ne_true)]] at p
        exact rt_d p
      · have hs : fromB 1 60 rs[k].s = true := by simpa using hs
        obtain ⟨sy, esy, sy1, sy60⟩ := size_in hs
        walk_at "al"
        refine ur_ixL hrm ?_
        walk_at "al"
        rw [esy]
        refine ur_mulI (.inl ⟨by omega, by omega⟩) ?_
        rw [if_pos hs, esy] at e2
        refine ag_name ⟨by simp, acc * sy, _, _, rfl, rfl, e2, Int.mul_nonneg h0 (by omega), ?_, by omega⟩
        rw [Int.pow_succ]
        exact Int.mul_le_mul h60 sy60 (by omega) (Int.le_of_lt (Int.pow_pos (by decide)))
    · obtain ⟨acc, r, m, rfl, rfl, e, h0, h60, hi3⟩ := hi
      rw [List.drop_length] at e
      have e : rowsD rs l 1 = some acc := e
      have eB : ruleB rs ⟨.tup l, .int sz, xf, .tup tl⟩ = (!decide (2000 < acc) && (decide ((tl.length : Int) = acc) && tl.all (fromB 0 (sz - 1)))) := by
        show (match rowsD rs l 1 with | some n => _ | none => true) = _
        rw [e]; rfl
      rw [eB] at p
      have hz := sizeLine_eq
      walk_at "al"
      refine ⟨fun h1 => ⟨fun _ => ?_, (fun z => nomatch z)⟩, fun h1 => ?_⟩
      · walk_at "al"
        rw [show decide ((tl.length : Int) = acc) = false from by simpa using h1, Bool.false_and, Bool.and_false] at p
        exact rt_d p
      rw [show decide ((tl.length : Int) = acc) = true from by simpa using h1, Bool.true_and] at p
      walk_at "al"
      refine ⟨fun h2 => ?_, fun h2 => as_next ?_⟩
      · walk_at "al"
        rw [h2] at p
        exact rt_d p
      rw [h2] at p
      walk_at "al"
      refine ae_map (l := tl) (fun d => .bl (fromB 0 (sz - 1) d)) rfl (gk_name rfl) (by rw [hz]; omega) (ai_seqT (ae_var rfl ⟨tl, rfl, rfl, rfl, ?_⟩)) fun d hd acc' => ?_
      · walk_at "al"
        refine uc_allP _ (.lst _) ?_
        exact rt_d p
      · have hfd := List.all_eq_true.mp hfl d hd
        walk_at "al"
        refine sent0 (ys := [d]) mono_whole ?_
        refine ⟨d, rfl, rfl, hfd, rfl, _, rfl, _, rfl, fun hw => ?_, fun hw => ?_⟩
        · cases d with
          | int j =>
            walk_at "al"
            have from_ : fromB 0 (sz - 1) (.int j) = (decide (0 ≤ j) && decide (j < sz)) := by
              show (decide (0 ≤ j) && decide (j ≤ sz - 1)) = _
              congr 1
              exact decide_eq_decide.mpr (by omega)
            refine ⟨fun h0 => ?_, fun h0 => ?_⟩
            · walk_at "al"
              rw [from_, h0, Bool.true_and]
              exact ⟨rfl, rfl⟩
            · rw [from_, h0, Bool.false_and]
              exact ⟨rfl, rfl⟩
          | _ => cases hw
        · have : fromB 0 (sz - 1) d = false := by cases d <;> first | rfl | cases hw
          rw [this]
          exact ⟨rfl, rfl⟩
theorem ok_ldue (D : DefAt K mg "_law_due" (top 34) ["_law_rooms_here"]) (T : Bt mg) (G__law_whole : FnAt P w K mg base CX0 1 "_law_whole" ["_law_thing"] aWhole) (G__law_size_right : FnAt P w K mg base CX0 2 "_law_size_right" ["_law_wide"] aSize)
    (G__law_hears_right : FnAt P w K mg base CX0 2 "_law_hears_right" ["_law_ears", "_law_many"] aHearsR) (G__law_rule_right : FnAt P w K mg base CX0 3 "_law_rule_right" ["_law_rooms_here", "_law_room"] aRuleR) :
    FnAt P w K mg base CX0 4 "_law_due" ["_law_rooms_here"] aDue2 := by
  refine fnat D sc__law_due (fun xs M Φ Ψ h => ?_) (fun f cdv A outer s H E hr => ⟨_, (pss_cons (ps_for PassesOwn.never rfl (pi_range1 rfl T.range (pa_cons (pe_callB (k_len K) (by rfl) T.len (by decide +kernel) (pa_cons (pv 0) pa_nil)) pa_nil)) (pg_name (i := 1) sc__law_due.nd rfl (Or.inl rfl)) (pss_cons (ps_asg (pe_ix (k_ix K) (pv 0) (pv 1) (fun _ _ => rfl)) (pg_lstK (n := 4) K rfl (pgs_cons (pg_name (i := 2) sc__law_due.nd rfl (Or.inl rfl)) (pgs_cons (pg_name (i := 3) sc__law_due.nd rfl (Or.inl rfl)) (pgs_cons (pg_name (i := 4) sc__law_due.nd rfl (Or.inl rfl)) (pgs_cons (pg_name (i := 5) sc__law_due.nd rfl (Or.inl rfl)) pgs_nil)))))) (pss_cons (ps_if (pt_not (pt_val (pe_fn G__law_hears_right (hr.mono (by decide)) rfl pass0 (pa_cons (pv 2) (pa_cons (pe_callB (k_len K) (by rfl) T.len (by decide +kernel) (pa_cons (pv 0) pa_nil)) pa_nil))))) (pss_one (ps_ret (pe_tup (pa_cons (pv 1) (pa_cons pe_str pa_nil))))) pss_nil) (pss_cons (ps_if (pt_not (pt_val (pe_fn G__law_size_right (hr.mono (by decide)) rfl pass0 (pa_cons (pv 3) pa_nil)))) (pss_one (ps_ret (pe_tup (pa_cons (pv 1) (pa_cons pe_str pa_nil))))) pss_nil) (pss_cons (ps_if (PW.pt (pw_or (pt_not (pt_val (pe_fn G__law_whole (hr.mono (by decide)) rfl pass0 (pa_cons (pv 4) pa_nil)))) (pw_or1 (pt_not (pt_chain op_le op_lt pe_int (pv 4) (pv 3)))))) (pss_one (ps_ret (pe_tup (pa_cons (pv 1) (pa_cons pe_str pa_nil))))) pss_nil) (pss_one (ps_if (pt_not (pt_val (pe_fn G__law_rule_right (hr.mono (by decide)) rfl pass0 (pa_cons (pv 0) (pa_cons (pe_ix (k_ix K) (pv 0) (pv 1) (fun _ _ => rfl)) pa_nil))))) (pss_one (ps_ret (pe_tup (pa_cons (pv 1) (pa_cons pe_str pa_nil))))) pss_nil))))))) (pss_one (ps_ret pe_non))), fun B xs M Φ Ψ hB h => ?_⟩)
  · obtain ⟨rs, rfl, _⟩ := h
    rfl
  · obtain ⟨rs, rfl, rfl, hg, hbig, p⟩ := h
    have hf : ∀ x ∈ rs, x.Fine := fun x hx => (hg x hx).fine
    refine as_seq (as_for (n := 0) (fun i σ M => M = [] ∧ (∃ a b c d e, σ = [some (.d (.lst (rs.map Rd.l))), a, b, c, d, e]) ∧ firstF rs 0 rs = firstF rs i (rs.drop i)) (fun i σ M e => by rw [e.1]; rfl) (ai_rng1 ?_))
    walk_at "al"
    rw [List.length_map]
    refine ⟨by omega, by omega, ⟨rfl, ⟨none, none, none, none, none, rfl⟩, by rw [List.drop_zero]⟩, fun i d σ' M' hd hi => ?_, fun σ' M' hi => ?_⟩
    · obtain ⟨rfl, ⟨a, b, c, d, e', rfl⟩, e⟩ := hi
      obtain ⟨hlt, rfl⟩ := rngD_get hd
      have hlt : i < rs.length := by omega
      have hx : rs[i]? = some rs[i] := List.getElem?_eq_getElem hlt
      rw [Int.zero_add]
      rw [firstF_drop hx] at e
      generalize hy : rs[i] = x at hx e
      have hgx := hg x (List.mem_of_getElem? hx)
      have hrm : atI (rs.map Rd.l) (i : Int) = some x.l := atI_natD (by rw [List.getElem?_map, hx]; rfl)
      rw [e] at p
      unfold faultD at p e
      refine ag_name (as_seq (as_asg (ae_op (ae_var rfl (ae_var rfl (ur_ixL hrm (ag_lst rfl (ags_cons (ag_name (ags_cons (ag_name (ags_cons (ag_name (ags_cons (ag_name (ags_nil ?_))))))))))))))))
      walk_at "al"
      rw [List.length_map]
      refine sent0 (ys := [x.h, .int rs.length]) mono_hearsR ?_
      refine ⟨x.h, rs.length, rfl, rfl, hgx.h, rfl, _, rfl, _, rfl, iteB (fun h1 => ?_) fun h1 => ?_⟩
      · have h1 : hearsB rs.length x.h = false := by simpa using h1
        rw [if_neg (by rw [h1]; exact Bool.false_ne_true)] at p
        walk_at "al"
        exact rt_d p
      have h1 : hearsB rs.length x.h = true := by simpa using h1
      rw [if_pos h1] at p e
      walk_at "al"
      refine sent0 (ys := [x.s]) mono_size ?_
      refine ⟨x.s, rfl, rfl, hgx.s, rfl, _, rfl, _, rfl, iteB (fun h2 => ?_) fun h2 => ?_⟩
      · have h2 : fromB 1 60 x.s = false := by simpa using h2
        rw [if_neg (by rw [h2]; exact Bool.false_ne_true)] at p
        walk_at "al"
        exact rt_d p
      have h2 : fromB 1 60 x.s = true := by simpa using h2
      rw [if_pos h2] at p e
      obtain ⟨sz, es, s1, s60⟩ := size_in h2
      walk_at "al"
      refine sent0 (ys := [x.f]) mono_whole ?_
      refine ⟨x.f, rfl, rfl, hgx.f, rfl, _, rfl, _, rfl, fun hw => ?_, fun hw => ?_⟩
      · refine ⟨fun _ => ?_, (fun z => nomatch z)⟩
        rw [if_neg (by intro hh; have : fromB 0 (toI x.s - 1) x.f = false := by cases hxf : x.f <;> rw [hxf] at hw <;> first | rfl | cases hw
                       rw [this] at hh; cases hh)] at p
        walk_at "al"
        exact rt_d p
      have from_ : ∀ j : Int, fromB 0 (toI x.s - 1) (.int j) = (decide (0 ≤ j) && decide (j < sz)) := fun j => by
        rw [es]
        show (decide (0 ≤ j) && decide (j ≤ sz - 1)) = _
        congr 1
        exact decide_eq_decide.mpr (by omega)
      obtain ⟨j, ej⟩ : ∃ j, x.f = .int j := by
        cases hxf : x.f <;> rw [hxf] at hw <;> first | exact ⟨_, rfl⟩ | cases hw
      rw [ej, from_] at p e
      rw [es, ej]
      have stop : (decide (0 ≤ j) && decide (j < sz)) = false → RT 0 Φ (.d (.tup [.int (i : Int), .str "first"])) [] := fun hh => by
        rw [if_neg (by rw [hh]; exact Bool.false_ne_true)] at p
        exact rt_d p
      walk_at "al"
      refine ⟨fun h0 => ?_, fun h0 => ⟨_, rfl, fun _ => ?_, (fun z => nomatch z)⟩⟩
      · walk_at "al"
        refine ⟨fun h5 => ?_, fun h5 => as_next ?_⟩
        · walk_at "al"
          exact stop (by rw [h0, Bool.true_and]; simpa using h5)
        rw [if_pos (by rw [h0, Bool.true_and]; simpa using h5)] at p e
        walk_at "al"
        refine ur_ixL hrm ?_
        walk_at "al"
        refine sent0 (ys := [.lst (rs.map Rd.l), x.l]) mono_ruleR ?_
        refine ⟨rs, x, rfl, rfl, hg, hgx, h1, h2, rfl, _, rfl, _, rfl, iteB (fun h4 => ?_) fun h4 => ?_⟩
        · have h4 : ruleB rs x = false := by simpa using h4
          walk_at "al"
          rw [if_neg (by rw [h4]; exact Bool.false_ne_true)] at p
          exact rt_d p
        · have h4 : ruleB rs x = true := by simpa using h4
          rw [if_pos h4] at e
          refine as_next ⟨by simp, rfl, ⟨_, _, _, _, _, rfl⟩, e⟩
      · walk_at "al"
        exact stop (by rw [h0, Bool.false_and])
    · obtain ⟨rfl, ⟨a, b, c, d, e', rfl⟩, e⟩ := hi
      have e : firstF rs 0 rs = none := by
        rw [e, rngD_len, Int.toNat_natCast, List.drop_length]
        rfl
      rw [e] at p
      walk_at "al"
      exact rt_d p
theorem ok_refused2 {C_NoRoom C_NoBeat C_NoStand C_NoTable C_NoText : Addr} (DD : DefAt K mg "_law_refused" (top 35) ["_law_thing"]) (T : Bt mg) (N : NoWebX K mg C_NoWeb C_NoRoom C_NoBeat C_NoStand C_NoTable C_NoText)
    (G_Web : MkAt P w K mg base (L2.CX P w) 8 C_Web "Web" ["self", "rooms"] (aInitN K C_Room C_Web C_NoWeb)) : FnAt P w K mg base CX0 10 "_law_refused" ["_law_thing"] (aRefused2 K C_Room) := by
  have c_NoWeb := N.cX
  have c_NoRoom := N.cR
  have c_NoBeat := N.cB
  have c_NoStand := N.cS
  have c_NoTable := N.cT
  have c_NoText := N.cN
  have xf_NoWeb := N.ex.xf
  have no_NoWeb_at := N.no1
  have no_NoWeb_what := N.no2
  refine fnat DD sc__law_refused (fun xs M Φ Ψ h => ?_) (fun f cdv A outer s H E hr => ⟨_, (pss_cons (ps_try_as (i := 1) rfl rfl sc__law_refused.nd rfl rfl ⟨rfl, by decide, .inl c_NoWeb⟩ takes0 (fun W pn xe tk _ => (pss_one (ps_expr (pe_mkS G_Web tk (hr.mono (by decide)) rfl (pa_cons (pv 0) pa_nil))))) (fun a oe cls d pn hz hf => (pss_cons (ps_if (PW.pt (pw_or (pt_not (pt_val (pe_callB (call_isE2 hz hf) (by rfl) T.isinstance (by decide +kernel) (pa_cons (pv 1) (pa_cons (pe_bltn (v := .ty "ValueError") (by rfl) T.ValueError (by decide +kernel) rfl) pa_nil))))) (pw_or1 (pt_val (pe_callB (call_isE2 hz hf) (by rfl) T.isinstance (by decide +kernel) (pa_cons (pv 1) (pa_cons (pe_tup (pa_cons (pe_glob (v := .ref C_NoRoom) rfl c_NoRoom rfl) (pa_cons (pe_glob (v := .ref C_NoBeat) rfl c_NoBeat rfl) (pa_cons (pe_glob (v := .ref C_NoStand) rfl c_NoStand rfl) (pa_cons (pe_glob (v := .ref C_NoTable) rfl c_NoTable rfl) (pa_cons (pe_glob (v := .ref C_NoText) rfl c_NoText rfl) pa_nil)))))) pa_nil))))))) (pss_one (ps_ret pe_str)) pss_nil) (pss_one (ps_ret (pe_tup (pa_cons (pe_xf xf_NoWeb no_NoWeb_at hz hf (pv 1)) (pa_cons (pe_xf xf_NoWeb no_NoWeb_what hz hf (pv 1)) pa_nil)))))))) (pss_one (ps_ret pe_non))), fun B xs M Φ Ψ hB h => ?_⟩)
  · obtain ⟨d, rfl, _⟩ := h
    rfl
  · obtain ⟨d, rfl, rfl, h⟩ := h
    refine as_seq (as_try (tb := fun Wx => tDrop (tMakeS C_Web (conc K (aInitN K C_Room C_Web C_NoWeb)) (WE Wx) (tCons (tVar 0) tNil))) (fun (y : Al.Exc) σ' M' => ∃ (k : Int) (z : Str), y = ((C_NoWeb, [(("at" : Str), .int k), (("what" : Str), .str z)]) : Al.Exc) ∧ σ' = startA ["_law_thing", "e"] [.d d] ∧ Φ (.d (optF (some (k, z)))) []) (fun B2 Wx hB2 hX => ?_) fun y σ' M' ⟨k, z, e1, e2, p⟩ => ?_)
    · walk_at "al"
      refine ae_makeS mono_initN hX ?_
      walk_at "al"
      rcases h with ⟨rs, rfl, hf, hbig, p⟩ | ⟨hn, p⟩
      · refine sentI (ys := [.tup (rs.map (Rd.d C_Room))]) mono_initN (by simp) ⟨_, rfl, rfl, .inl ⟨rs, rfl, hf, hbig, ?_⟩⟩
        cases e : webD rs with
        | none =>
          rw [e] at p
          refine ⟨rfl, ["kept"], [.tup (rs.map (Rd.d C_Room))], rfl, ?_⟩
          walk_at "al"
          exact rt_d p
        | some y =>
          rw [e] at p
          exact ⟨_, rfl, _, _, rfl, rfl, p⟩
      · exact sentI (ys := [d]) mono_initN (by simp) ⟨_, rfl, rfl, .inr ⟨hn, _, rfl, _, _, rfl, rfl, p⟩⟩
    · subst e1 e2
      refine ⟨N.me, fun a dx => ?_⟩
      walk_at "al"
      refine ac_isE N.ex (.inl ⟨_, rfl, rfl⟩) N.ty ?_
      walk_at "al"
      refine ⟨fun h => (nomatch h), fun _ => ?_⟩
      walk_at "al"
      refine ac_isEt N.ex rfl N.nt ?_
      walk_at "al"
      refine ⟨fun h => (nomatch h), fun _ => as_next ?_⟩
      walk_at "al"
      refine ae_xf (ae_var rfl ⟨rfl, rfl, ?_⟩)
      walk_at "al"
      refine ae_xf (ae_var rfl ⟨rfl, rfl, ?_⟩)
      walk_at "al"
      exact rt_dM p
end
end Wd

namespace Wd
open PySem PyProof.Rows L2 Al Gx
variable [Al.TabList]
theorem sc__law_faulty : FnScope ["_law_bag_here", "_law_rooms_here", "_law_found", "_law_room", "_law_turn", "_law_kind", "_law_many", "_law_some", "_law_deed_of"] ["_law_bag_here", "_law_rooms_here"] (defScope (top 30)) := ⟨rfl, rfl, rfl, by decide +kernel, rfl, by decide +kernel, by decide +kernel⟩
def Rd.mo (x : Rd) : MO := .lst [x.h, x.s, x.f, x.r]
/-- the store while rooms are spoilt -/
def St (g x c : Int) (rs : List Rd) : List MO := bag g x c :: .ls ((List.range rs.length).map fun j => AV.m (2 + j)) :: rs.map Rd.mo
theorem St.at {g x c : Int} {rs : List Rd} {r : Nat} {y : Rd} (h : rs[r]? = some y) : (St g x c rs)[2 + r]? = some (.lst [y.h, y.s, y.f, y.r]) := by
  rw [Nat.add_comm]
  show (rs.map Rd.mo)[r]? = _
  rw [List.getElem?_map, h]; rfl
theorem St.set {g x c : Int} {rs : List Rd} {r : Nat} (y : Rd) : (St g x c rs).set (2 + r) (.lst [y.h, y.s, y.f, y.r]) = St g x c (rs.set r y) := by
  rw [Nat.add_comm]
  show bag g x c :: _ :: (rs.map Rd.mo).set r (Rd.mo y) = _
  unfold St
  rw [List.length_set, List.map_set]
theorem St.len {g x c : Int} {rs : List Rd} : (St g x c rs).length = 2 + rs.length := by
  show (rs.map Rd.mo).length + 1 + 1 = _
  rw [List.length_map]; omega
theorem St.bag {g x c g' x' c' : Int} {rs : List Rd} : (St g x c rs).set 0 (Wd.bag g' x' c') = St g' x' c' rs := rfl
theorem St.below {g x c : Int} {rs : List Rd} {n : Nat} (h : 2 + rs.length = n) : ∀ o ∈ St g x c rs, o.below n = true := fun o ho => by
  rcases List.mem_cons.mp ho with rfl | ho
  · rfl
  rcases List.mem_cons.mp ho with rfl | ho
  · show (List.all _ (AV.below n)) = true
    rw [List.all_map, List.all_eq_true]
    intro j hj
    have := List.mem_range.mp hj
    exact decide_eq_true (by omega)
  · obtain ⟨y, _, rfl⟩ := List.mem_map.mp ho
    rfl
/-- the rules are tuples of so many -/
def Bnd (n : Nat) (rs : List Rd) : Prop := ∀ x ∈ rs, ∃ l, x.r = .tup l ∧ l.length ≤ n
theorem mem_set {rs : List Rd} {r : Nat} {y x : Rd} (h : x ∈ rs.set r y) : x ∈ rs ∨ x = y := List.mem_or_eq_of_mem_set h
theorem cutL_all {l : List D} {p : D → Bool} (lo hi : Option Int) (h : l.all p = true) : (cutL l lo hi).all p = true := by
  rw [List.all_eq_true] at h ⊢
  exact fun d hd => h d (List.mem_of_mem_drop (List.mem_of_mem_take hd))
theorem cutL_len (l : List D) (lo hi : Option Int) : (cutL l lo hi).length ≤ l.length := by
  unfold cutL
  rw [List.length_take, List.length_drop]
  omega
def aFaulty : ASp := fun xs M Φ _ => ∃ (g x c : Int) (rms : List Rm), xs = [.m 0, .d (.lst (rms.map Rm.t))] ∧ M = [bag g x c] ∧ 1 ≤ rms.length ∧ rms.length ≤ 12 ∧ (∀ y ∈ rms, y.table.length ≤ 2000) ∧
  ∀ (rs : List Rd) (g' x' c' : Int), rs.length = rms.length → (∀ y ∈ rs, y.Good) → Φ (.d (.lst (rs.map Rd.l))) [bag g' x' c']
theorem mono_faulty : Mono aFaulty := fun xs M Φ Φ' Ψ Ψ' h1 _ ⟨g, x, c, rms, e1, e2, e3, e4, e5, p⟩ => ⟨g, x, c, rms, e1, e2, e3, e4, e5, fun rs g' x' c' a b => h1 _ _ (p rs g' x' c' a b)⟩
/-- what ears may be put in -/
def badEars (many : Int) : List D := [.tup [.int many], .tup [.int 0, .int 0], .lst [.int 0], .tup [.non], .tup [.bl true], .tup [.int (-1)], .str "0", .tup (rngD 0 4), .tup [.int 0, .str "1"], .tup [.int (many - 1)]]
theorem ear_at {many r : Int} (h0 : 0 ≤ r) (h : r < 12) : ∃ d, atI (badEars many ++ [.tup [.lst [.int 0]], .tup [.lst [.int 0], .int 1]]) r = some d ∧ flats d = true := by
  obtain rfl | rfl | rfl | rfl | rfl | rfl | rfl | rfl | rfl | rfl | rfl | rfl : r = 0 ∨ r = 1 ∨ r = 2 ∨ r = 3 ∨ r = 4 ∨ r = 5 ∨ r = 6 ∨ r = 7 ∨ r = 8 ∨ r = 9 ∨ r = 10 ∨ r = 11 := by omega
  all_goals exact ⟨_, rfl, rfl⟩
def badSizes : List D := [.int 0, .int 61, .int (-1), .bl true, .str "2", .non, .int 60, .int (10 ^ 40)]
theorem size_at {r : Int} (h0 : 0 ≤ r) (h : r < 8) : ∃ d, atI badSizes r = some d ∧ flatD d = true := by
  obtain rfl | rfl | rfl | rfl | rfl | rfl | rfl | rfl : r = 0 ∨ r = 1 ∨ r = 2 ∨ r = 3 ∨ r = 4 ∨ r = 5 ∨ r = 6 ∨ r = 7 := by omega
  all_goals exact ⟨_, rfl, rfl⟩
def badFirsts (s : D) : List D := [s, .int (-1), .bl false, .non, .str "0", .int 0, .tup [.int 0]]
theorem first_at {s : D} (hs : flatD s = true) {r : Int} (h0 : 0 ≤ r) (h : r < 7) : ∃ d, atI (badFirsts s) r = some d ∧ flatD d = true := by
  obtain rfl | rfl | rfl | rfl | rfl | rfl | rfl : r = 0 ∨ r = 1 ∨ r = 2 ∨ r = 3 ∨ r = 4 ∨ r = 5 ∨ r = 6 := by omega
  · exact ⟨_, rfl, hs⟩
  all_goals exact ⟨_, rfl, rfl⟩
def badRules (l : List D) : List D := [.tup (l ++ [.int 0]), .tup (cutL l (some 1) none), .tup (cutL l none (some (-1)) ++ [.int 60]), .tup ([.int (-1)] ++ cutL l (some 1) none), .tup (cutL l none (some (-1)) ++ [.bl true]), .tup []]
theorem rule_at {l : List D} (hl : l.all flatD = true) {n : Nat} (hn : l.length ≤ n) {r : Int} (h0 : 0 ≤ r) (h : r < 7) : ∃ l', atI (badRules l ++ [.tup ([.non] ++ cutL l (some 1) none)]) r = some (.tup l') ∧ l'.all flatD = true ∧ l'.length ≤ n + 1 := by
  have a1 := cutL_all (some 1) none hl
  have a2 := cutL_all none (some (-1)) hl
  have n1 := cutL_len l (some 1) none
  have n2 := cutL_len l none (some (-1))
  obtain rfl | rfl | rfl | rfl | rfl | rfl | rfl : r = 0 ∨ r = 1 ∨ r = 2 ∨ r = 3 ∨ r = 4 ∨ r = 5 ∨ r = 6 := by omega
  · exact ⟨_, rfl, by rw [List.all_append, hl]; rfl, by simp; omega⟩
  · exact ⟨_, rfl, a1, by omega⟩
  · exact ⟨_, rfl, by rw [List.all_append, a2]; rfl, by simp; omega⟩
  · exact ⟨_, rfl, by rw [List.all_append, a1]; rfl, by simp; omega⟩
  · exact ⟨_, rfl, by rw [List.all_append, a2]; rfl, by simp; omega⟩
  · exact ⟨_, rfl, rfl, by simp⟩
  · exact ⟨_, rfl, by rw [List.all_append, a1]; rfl, by simp; omega⟩
/-- behind i turns -/
def TI (rms : List Rm) (i : Nat) (σ : AEnv) (M : List MO) : Prop := ∃ (g x c : Int) (rs : List Rd) (a3 a4 a5 a6 a7 a8 : Option AV), σ = [some (.m 0), some (.d (.lst (rms.map Rm.t))), some (.m 1), a3, a4, a5, a6, a7, a8] ∧ M = St g x c rs ∧ rs.length = rms.length ∧ (∀ y ∈ rs, y.Good) ∧ Bnd (2000 + i) rs ∧ i ≤ 3
theorem TI.cut {rms : List Rm} {i : Nat} {g x c : Int} {rs : List Rd} {a3 a4 a5 a6 a7 a8 : Option AV} (h : rs.length = rms.length ∧ (∀ y ∈ rs, y.Good) ∧ Bnd (2000 + i) rs ∧ i ≤ 3) :
    Cut (2 + rms.length) (TI rms i) [some (.m 0), some (.d (.lst (rms.map Rm.t))), some (.m 1), a3, a4, a5, a6, a7, a8] (St g x c rs) := by
  have e : (St g x c rs).take (2 + rms.length) = St g x c rs := List.take_of_length_le (by rw [St.len, h.1]; exact Nat.le_refl _)
  refine ⟨by rw [e]; exact St.below (by rw [h.1]), g, x, c, rs, cutV1 (2 + rms.length) a3, cutV1 (2 + rms.length) a4, cutV1 (2 + rms.length) a5, cutV1 (2 + rms.length) a6, cutV1 (2 + rms.length) a7, cutV1 (2 + rms.length) a8, ?_, e, h⟩
  show [cutV1 _ _, cutV1 _ _, cutV1 _ _, _, _, _, _, _, _] = _
  have h0 : (0 : Nat) < 2 + rms.length := by omega
  have h1 : (1 : Nat) < 2 + rms.length := by omega
  unfold cutV1
  simp only [h0, h1, if_true]
local macro_rules | `(tactic| walk_at "alside") => `(tactic| first
  | decide
  | (dsimp only; decide)
  | exact Or.inr (by decide)
  | exact Or.inl (by decide)
  | (dsimp only; omega)
  | (unfold CDiv; omega)
  | (unfold CPow; omega)
  | (unfold CMul; omega)
  | assumption)
local macro_rules | `(tactic| walk_at "al1") => `(tactic| first
  | with_reducible refine as_asg ?_
  | with_reducible refine as_drop ?_
  | with_reducible refine as_ret ?_
  | with_reducible refine as_if ?_
  | with_reducible refine as_next ?_
  | with_reducible refine at_test ?_
  | with_reducible refine at_b ?_
  | with_reducible refine at_and ?_
  | with_reducible refine at_or ?_
  | with_reducible refine at_not ?_
  | with_reducible refine ae_op ?_
  | with_reducible refine ae_un ?_
  | with_reducible refine ae_cb ?_
  | with_reducible refine ae_if ?_
  | with_reducible refine ae_andV ?_
  | with_reducible refine ae_orV ?_
  | with_reducible refine ae_notV ?_
  | with_reducible refine ae_chain ?_
  | with_reducible refine ae_int ?_
  | with_reducible refine ae_bl ?_
  | with_reducible refine ae_non ?_
  | with_reducible refine ae_str ?_
  | with_reducible refine ae_ty ?_
  | with_reducible refine ae_adr ?_
  | with_reducible refine aa_nil ?_
  | with_reducible refine aa_cons ?_
  | with_reducible refine ag_name ?_
  | with_reducible refine ag_sub ?_
  | with_reducible refine at_yes ?_
  | ((with_reducible show AE _ _ (tVar _) _ _ _); refine ae_var rfl ?_)
  | ((with_reducible show AR _ _ (uAdd _) _ _ _ _); refine ur_addI ?_)
  | ((with_reducible show AR _ _ (uMul _) _ _ _ _); refine ur_mulI (by walk_at "alside") ?_)
  | ((with_reducible show AR _ _ (uEq _) _ _ _ _); first | refine ur_eqI ?_ | refine ur_eqS ?_ | refine ur_eqB ?_)
  | ((with_reducible show AR _ _ (uNe _) _ _ _ _); first | refine ur_neI ?_ | refine ur_neS ?_ | refine ur_neB ?_)
  | ((with_reducible show AR _ _ (rIx _) _ _ _ _); first | refine ur_ixM rfl rfl ?_ | refine ur_ixL rfl ?_ | refine ur_ixT rfl ?_ | refine ur_ixS rfl ?_)
  | ((with_reducible show AC _ _ (uLen _) _ _ _); first | refine uc_len (.tup _) ?_ | refine uc_len (.lst _) ?_ | refine uc_len (.scr _) ?_ | refine uc_len (.mm rfl) ?_)
  | ((with_reducible show AR _ _ (rI0 _) _ _ _ _); first | with_reducible refine ar_i0 ?_ | with_reducible refine ar_b0 ?_)
  | ((with_reducible show AU _ _ (rU _) _ _ _); with_reducible refine au_i ?_)
  | ((with_reducible show AR _ _ (rI _ _) _ _ _ _); refine ar_i (by walk_at "alside") ?_)
  | ((with_reducible show AR _ _ (rIxL _) _ _ _ _); first | refine ar_ixM rfl rfl ?_ | refine ar_ixL rfl ?_ | refine ar_ixS rfl ?_)
  | ((with_reducible show AR _ _ (rIxT _) _ _ _ _); refine ar_ixT rfl ?_)
  | ((with_reducible show AR _ _ rEq _ _ _ _); first | with_reducible refine ar_eqI ?_ | with_reducible refine ar_eqS ?_ | with_reducible refine ar_eqB ?_)
  | ((with_reducible show AR _ _ rNe _ _ _ _); first | with_reducible refine ar_neI ?_ | with_reducible refine ar_neS ?_ | with_reducible refine ar_neB ?_))
local macro_rules | `(tactic| walk_at "alds") => `(tactic| first
  | refine ⟨[], rfl, Nat.le_of_ble_eq_true rfl, ?_⟩
  | refine ⟨[_], rfl, Nat.le_of_ble_eq_true rfl, ?_⟩
  | refine ⟨[_, _], rfl, Nat.le_of_ble_eq_true rfl, ?_⟩
  | refine ⟨[_, _, _], rfl, Nat.le_of_ble_eq_true rfl, ?_⟩
  | refine ⟨[_, _, _, _], rfl, Nat.le_of_ble_eq_true rfl, ?_⟩
  | refine ⟨[_, _, _, _, _], rfl, Nat.le_of_ble_eq_true rfl, ?_⟩
  | refine ⟨[_, _, _, _, _, _], rfl, Nat.le_of_ble_eq_true rfl, ?_⟩
  | refine ⟨[_, _, _, _, _, _, _], rfl, Nat.le_of_ble_eq_true rfl, ?_⟩
  | refine ⟨[_, _, _, _, _, _, _, _], rfl, Nat.le_of_ble_eq_true rfl, ?_⟩
  | refine ⟨[_, _, _, _, _, _, _, _, _], rfl, Nat.le_of_ble_eq_true rfl, ?_⟩
  | refine ⟨[_, _, _, _, _, _, _, _, _, _], rfl, Nat.le_of_ble_eq_true rfl, ?_⟩
  | refine ⟨[_, _, _, _, _, _, _, _, _, _, _], rfl, Nat.le_of_ble_eq_true rfl, ?_⟩
  | refine ⟨[_, _, _, _, _, _, _, _, _, _, _, _], rfl, Nat.le_of_ble_eq_true rfl, ?_⟩)
local macro_rules | `(tactic| walk_at "alc") => `(tactic| refine ae_call0 (Ψ := fun _ _ => False) (by walk_at "almono") efits_none ?_)
local macro_rules | `(tactic| walk_at "al") => `(tactic| repeat (first | walk_at "al1" | with_reducible refine as_seq ?_ | with_reducible refine ae_tup ?_ | with_reducible walk_at "alc" | refine ⟨_, rfl, ?_⟩ | walk_at "alds" | refine ⟨_, _, _, _, _, rfl, rfl, rfl, rfl, rfl, ?_⟩))
local macro_rules | `(tactic| walk_at "alF") => `(tactic| repeat (first | walk_at "al1" | with_reducible refine as_seq ?_ | with_reducible refine ae_tup ?_ | with_reducible refine ae_lst ?_ | with_reducible walk_at "alc" | refine ⟨_, rfl, ?_⟩ | walk_at "alds" | refine ⟨_, _, _, _, _, rfl, rfl, rfl, rfl, rfl, ?_⟩))
local macro_rules | `(tactic| walk_at "alo") => `(tactic| repeat (first | walk_at "al1" | with_reducible refine ae_tup ?_ | with_reducible walk_at "alc" | refine ⟨_, rfl, ?_⟩ | walk_at "alds" | refine ⟨_, _, _, _, _, rfl, rfl, rfl, rfl, rfl, ?_⟩))
local macro_rules | `(tactic| walk_at "almono") => `(tactic| first | exact mono_take)
section
variable {P : Program} {w : World} {K : PySem.W.Frag} {mg : Str → Option Value} {base : Heap}
theorem ok_faulty (D : DefAt K mg "_law_faulty" (top 30) ["_law_bag_here", "_law_rooms_here"]) (T : Bt mg) (G__law_take : FnAt P w K mg base CX0 1 "_law_take" ["_law_bag_here", "_law_many"] aTake) :
    FnAt P w K mg base CX0 3 "_law_faulty" ["_law_bag_here", "_law_rooms_here"] aFaulty := by
  refine fnat D sc__law_faulty (fun xs M Φ Ψ h => ?_) (fun f cdv A outer s H E hr => ⟨_, (pss_cons (ps_setLc (i := 2) (own := [("_law_room", 3)]) rfl sc__law_faulty.nd rfl rfl (sw_true rfl rfl rfl (by decide +kernel)) (pi_seqK K (pv 1)) (blkOk_by (own := [("_law_room", 3)]) (N := ["_law_bag_here", "_law_rooms_here", "_law_found", "_law_room", "_law_turn", "_law_kind", "_law_many", "_law_some", "_law_deed_of"]) (sc := defScope (top 30)) (by decide +kernel)) (fun _ _ _ _ _ => by exact (pg_name (i := 3) sc__law_faulty.nd rfl (Or.inl rfl))) (fun _ _ _ _ _ => by exact pts_nil) (fun _ _ _ _ _ => by exact (pe_callTy (k_listOf K) (by rfl) T.list (by decide +kernel) (pa_cons (pv 3) pa_nil)))) (pss_cons (ps_for PassesOwn.never rfl (pi_range1 rfl T.range (pa_cons (pe_fn G__law_take (hr.mono (by decide)) rfl pass0 (pa_cons (pv 0) (pa_cons pe_int pa_nil))) pa_nil)) (pg_name (i := 4) sc__law_faulty.nd rfl (Or.inl rfl)) (pss_cons (ps_par (i := 3) (j := 5) rfl sc__law_faulty.nd rfl rfl (by decide) rfl rfl (pa_cons (pe_ix (k_ix K) (pv 2) (pe_fn G__law_take (hr.mono (by decide)) rfl pass0 (pa_cons (pv 0) (pa_cons (pe_callB (k_len K) (by rfl) T.len (by decide +kernel) (pa_cons (pv 2) pa_nil)) pa_nil))) (fun _ _ => rfl)) (pa_cons (pe_fn G__law_take (hr.mono (by decide)) rfl pass0 (pa_cons (pv 0) (pa_cons pe_int pa_nil))) pa_nil)) rfl) (pss_one (ps_if (pt_cmpR op_lt (pv 5) pe_int (nomark _)) (pss_cons (ps_set (i := 6) sc__law_faulty.nd rfl (Or.inl rfl) (pe_callB (k_len K) (by rfl) T.len (by decide +kernel) (pa_cons (pv 1) pa_nil))) (pss_cons (ps_set (i := 7) sc__law_faulty.nd rfl (Or.inl rfl) (pe_lst (pa_cons (pe_tup (pa_cons (pv 6) pa_nil)) (pa_cons (pe_tup (pa_cons pe_int (pa_cons pe_int pa_nil))) (pa_cons (pe_lst (pa_cons pe_int pa_nil)) (pa_cons (pe_tup (pa_cons pe_non pa_nil)) (pa_cons (pe_tup (pa_cons pe_bl pa_nil)) (pa_cons (pe_tup (pa_cons (pe_un un_neg pe_int) pa_nil)) (pa_cons pe_str (pa_cons (pe_tupRg rfl rfl T.tuple (prg_1 rfl T.range pe_int)) (pa_cons (pe_tup (pa_cons pe_int (pa_cons pe_str pa_nil))) (pa_cons (pe_tup (pa_cons (pe_op op_sub (pv 6) pe_int) pa_nil)) pa_nil)))))))))))) (pss_one (ps_asg (pe_ix (k_ix K) (pe_op (k_add K) (pv 7) (pe_lst (pa_cons (pe_tup (pa_cons (pe_lst (pa_cons pe_int pa_nil)) pa_nil)) (pa_cons (pe_tup (pa_cons (pe_lst (pa_cons pe_int pa_nil)) (pa_cons pe_int pa_nil))) pa_nil)))) (pe_fn G__law_take (hr.mono (by decide)) rfl pass0 (pa_cons (pv 0) (pa_cons pe_int pa_nil))) (fun _ _ => rfl)) (pg_sub (pv 3) pe_int set_list))))) (pss_one (ps_if (pt_cmpR op_lt (pv 5) pe_int (nomark _)) (pss_one (ps_asg (pe_ix (k_ix K) (pe_lst (pa_cons pe_int (pa_cons pe_int (pa_cons (pe_un un_neg pe_int) (pa_cons pe_bl (pa_cons pe_str (pa_cons pe_non (pa_cons pe_int (pa_cons (pe_op op_pow pe_int pe_int) pa_nil))))))))) (pe_fn G__law_take (hr.mono (by decide)) rfl pass0 (pa_cons (pv 0) (pa_cons pe_int pa_nil))) (fun _ _ => rfl)) (pg_sub (pv 3) pe_int set_list))) (pss_one (ps_if (pt_cmpR op_lt (pv 5) pe_int (nomark _)) (pss_one (ps_asg (pe_ix (k_ix K) (pe_lst (pa_cons (pe_ix (k_ix K) (pv 3) pe_int (fun _ _ => rfl)) (pa_cons (pe_un un_neg pe_int) (pa_cons pe_bl (pa_cons pe_non (pa_cons pe_str (pa_cons pe_int (pa_cons (pe_tup (pa_cons pe_int pa_nil)) pa_nil)))))))) (pe_fn G__law_take (hr.mono (by decide)) rfl pass0 (pa_cons (pv 0) (pa_cons pe_int pa_nil))) (fun _ _ => rfl)) (pg_sub (pv 3) pe_int set_list))) (pss_one (ps_if (pt_val (pe_callB (k_isi K) (by rfl) T.isinstance (by decide +kernel) (pa_cons (pe_ix (k_ix K) (pv 3) pe_int (fun _ _ => rfl)) (pa_cons (pe_bltn (v := .ty "tuple") (by rfl) T.tuple (by decide +kernel) rfl) pa_nil)))) (pss_cons (ps_set (i := 8) sc__law_faulty.nd rfl (Or.inl rfl) (pe_ix (k_ix K) (pv 3) pe_int (fun _ _ => rfl))) (pss_cons (ps_set (i := 7) sc__law_faulty.nd rfl (Or.inl rfl) (pe_lst (pa_cons (pe_op (k_add K) (pv 8) (pe_tup (pa_cons pe_int pa_nil))) (pa_cons (pe_slice (k_slA K) (pv 8) (po_some pe_int) po_none) (pa_cons (pe_op (k_add K) (pe_slice (k_slA K) (pv 8) po_none (po_some (pe_un un_neg pe_int))) (pe_tup (pa_cons pe_int pa_nil))) (pa_cons (pe_op (k_add K) (pe_tup (pa_cons (pe_un un_neg pe_int) pa_nil)) (pe_slice (k_slA K) (pv 8) (po_some pe_int) po_none)) (pa_cons (pe_op (k_add K) (pe_slice (k_slA K) (pv 8) po_none (po_some (pe_un un_neg pe_int))) (pe_tup (pa_cons pe_bl pa_nil))) (pa_cons (pe_tup pa_nil) pa_nil)))))))) (pss_one (ps_asg (pe_ix (k_ix K) (pe_op (k_add K) (pv 7) (pe_lst (pa_cons (pe_op (k_add K) (pe_tup (pa_cons pe_non pa_nil)) (pe_slice (k_slA K) (pv 8) (po_some pe_int) po_none)) pa_nil))) (pe_fn G__law_take (hr.mono (by decide)) rfl pass0 (pa_cons (pv 0) (pa_cons pe_int pa_nil))) (fun _ _ => rfl)) (pg_sub (pv 3) pe_int set_list))))) pss_nil)))))))))) (pss_one (ps_ret (pv 2))))), fun B xs M Φ Ψ hB h => ?_⟩)
  · obtain ⟨g, x, c, rms, rfl, _⟩ := h
    rfl
  · obtain ⟨g, x, c, rms, rfl, rfl, n1, n12, htab, p⟩ := h
    have hz := sizeLine_eq
    refine as_seq (as_asgN (ae_lcLL (n := 1) (fun i M => M = bag g x c :: .ls ((List.range i).map fun j => AV.m (2 + j)) :: ((rms.take i).map Rm.rd).map Rd.mo) (gk_name rfl) (fun _ _ _ => True.intro) (ai_seqL (ae_var rfl ⟨_, rfl, rfl, rfl, fun i d M' hd hi => ?_, fun M' hi => ?_⟩))))
    · subst hi
      rw [List.getElem?_map] at hd
      obtain ⟨y, hy, rfl⟩ := Option.map_eq_some_iff.mp hd
      have hlt := (List.getElem?_eq_some_iff.mp hy).1
      refine ag_name (ae_cb (aa_cons (ae_var rfl (aa_nil (uc_listTM ?_)))))
      refine ⟨_, rfl, by rw [List.length_map, List.length_range, hz]; omega, ?_⟩
      have hl : (bag g x c :: MO.ls ((List.range i).map fun j => AV.m (2 + j)) :: ((rms.take i).map Rm.rd).map Rd.mo).length = 2 + i := by
        rw [List.length_cons, List.length_cons, List.length_map, List.length_map, List.length_take]
        omega
      rw [hl]
      show bag g x c :: MO.ls (_ ++ [AV.m (2 + i)]) :: (((rms.take i).map Rm.rd).map Rd.mo ++ [Rd.mo y.rd]) = _
      rw [List.range_succ, List.map_append, List.take_add_one, hy]
      simp
    · subst hi
      rw [List.length_map, List.take_length]
      have eM : (bag g x c :: MO.ls ((List.range rms.length).map fun j => AV.m (2 + j)) :: (rms.map Rm.rd).map Rd.mo) = St g x c (rms.map Rm.rd) := by
        unfold St
        rw [List.length_map]
      rw [eM]
      refine as_seq (as_for (n := 2 + rms.length) (TI rms)
        (fun i σ M ⟨_, _, _, rs, _, _, _, _, _, _, _, e, el, _⟩ => by rw [e, St.len, el]) (ai_rng1 ?_))
      walk_at "alo"
      refine take_sent rfl (by decide) (by decide) fun q g2 x2 c2 q0 q3 => ?_
      rw [St.bag]
      walk_at "alo"
      refine ⟨by omega, by omega, ⟨g2, x2, c2, rms.map Rm.rd, none, none, none, none, none, none, rfl, rfl, by rw [List.length_map], ?_, ?_, by omega⟩, fun i d σ' M' hd hi => ?_, fun σ' M' hi => ?_⟩
      · intro y hy
        obtain ⟨z, hz', rfl⟩ := List.mem_map.mp hy
        exact ⟨all_flat _, rfl, rfl, _, rfl, all_flat _, by rw [List.length_map]; have := htab z hz'; omega⟩
      · intro y hy
        obtain ⟨z, hz', rfl⟩ := List.mem_map.mp hy
        exact ⟨_, rfl, by rw [List.length_map]; have := htab z hz'; omega⟩
      · obtain ⟨g1, x1, c1, rs, a3, a4, a5, a6, a7, a8, rfl, rfl, hl, hg, hb, hi3⟩ := hi
        obtain ⟨hlt, rfl⟩ := rngD_get hd
        have hi2 : i + 1 ≤ 3 := by omega
        clear hd hlt
        have n0 : (0 : Int) < (rs.length : Int) := by omega
        refine ag_name (as_seq (as_par (aa_cons (ae_op (ae_var rfl ?_)))))
        walk_at "alo"
        refine uc_lenLS (l := (List.range rs.length).map fun j => AV.m (2 + j)) rfl ?_
        rw [List.length_map, List.length_range]
        walk_at "alo"
        refine take_sent rfl n0 (by omega) fun r g2 x2 c2 r0 r1 => ?_
        rw [St.bag]
        obtain ⟨r, rfl⟩ := Int.eq_ofNat_of_zero_le r0
        have hr : r < rs.length := by omega
        have hy : rs[r]? = some rs[r] := List.getElem?_eq_getElem hr
        generalize rs[r] = y at hy
        have hgy := hg y (List.mem_of_getElem? hy)
        obtain ⟨tl, etl, htl⟩ := hb y (List.mem_of_getElem? hy)
        have next : ∀ y' : Rd, y'.Good → (∃ l, y'.r = .tup l ∧ l.length ≤ 2000 + (i + 1)) → (rs.set r y').length = rms.length ∧ (∀ z ∈ rs.set r y', z.Good) ∧ Bnd (2000 + (i + 1)) (rs.set r y') ∧ i + 1 ≤ 3 := fun y' h1 h2 =>
          ⟨by rw [List.length_set, hl], fun z hz => (mem_set hz).elim (hg z) (fun e => e ▸ h1), fun z hz => (mem_set hz).elim (fun h => let ⟨l, a, b⟩ := hb z h; ⟨l, a, by omega⟩) (fun e => e ▸ h2), hi2⟩
        have stay : rs.length = rms.length ∧ (∀ z ∈ rs, z.Good) ∧ Bnd (2000 + (i + 1)) rs ∧ i + 1 ≤ 3 := ⟨hl, hg, fun z hz => let ⟨l, a, b⟩ := hb z hz; ⟨l, a, by omega⟩, hi2⟩
        refine ur_ixLS (l := (List.range rs.length).map fun j => AV.m (2 + j)) rfl (y := .m (2 + r)) ?_ ?_
        · unfold atI
          rw [List.length_map, List.length_range, show ixN rs.length (r : Int) = some r from ?_]
          · show ((List.range rs.length).map fun j => AV.m (2 + j))[r]? = _
            rw [List.getElem?_map, List.getElem?_range hr]; rfl
          · unfold ixN
            rw [if_pos (by omega), if_pos (by omega), Int.toNat_natCast]
        walk_at "alo"
        refine take_sent rfl (by decide) (by decide) fun q g3 x3 c3 q0 q3 => ?_
        rw [St.bag]
        walk_at "alo"
        refine ⟨_, _, rfl, ?_⟩
        refine as_if (at_test (ae_op (ae_var rfl (ae_int (ar_b0 ⟨_, rfl, fun h3 => ?_, fun h3 => ?_⟩)))))
        · refine as_seq (as_asgN (ae_cb (aa_cons (ae_var rfl (aa_nil (uc_len (.lst _) ?_))))))
          rw [List.length_map]
          refine as_seq (as_asgN (ae_is (x := .d (.lst (badEars rms.length))) ?_ ?_))
          · walk_at "alF"
            refine ae_tupRg1 (ae_int ⟨4, rfl, by decide, by decide, ?_⟩)
            walk_at "alF"
            exact ⟨rfl, rfl⟩
          · refine as_asg (ae_op (ae_op (ae_var rfl (ae_is (x := .d (.lst [.tup [.lst [.int 0]], .tup [.lst [.int 0], .int 1]])) ?_ (ur_addL (.lst _) (.lst _) (by rw [hz]; simp [badEars]) ?_)))))
            · walk_at "alF"
              exact ⟨rfl, rfl⟩
            walk_at "alo"
            refine take_sent rfl (by decide) (by decide) fun v g4 x4 c4 v0 v1 => ?_
            rw [St.bag]
            obtain ⟨d, hd, hfd⟩ := ear_at (many := rms.length) v0 v1
            refine ur_ixL hd (ag_sub (ae_var rfl (ae_int ⟨2 + r, 0, _, 0, d, rfl, rfl, St.at hy, rfl, rfl, ?_⟩)))
            have e := St.set (g := g4) (x := x4) (c := c4) (rs := rs) (r := r) ⟨d, y.s, y.f, y.r⟩
            have e : (St g4 x4 c4 rs).set (2 + r) (.lst ([y.h, y.s, y.f, y.r].set 0 d)) = _ := e
            rw [e]
            exact TI.cut (next ⟨d, y.s, y.f, y.r⟩ ⟨hfd, hgy.s, hgy.f, hgy.r⟩ ⟨tl, etl, by omega⟩)
        refine as_if (at_test (ae_op (ae_var rfl (ae_int (ar_b0 ⟨_, rfl, fun h5 => ?_, fun h5 => ?_⟩)))))
        · refine as_asg (ae_op (ae_is (x := .d (.lst badSizes)) ?_ ?_))
          · walk_at "alF"
            exact ⟨rfl, rfl⟩
          walk_at "alo"
          refine take_sent rfl (by decide) (by decide) fun v g4 x4 c4 v0 v1 => ?_
          rw [St.bag]
          obtain ⟨d, hd, hfd⟩ := size_at v0 v1
          refine ur_ixL hd (ag_sub (ae_var rfl (ae_int ⟨2 + r, 1, _, 1, d, rfl, rfl, St.at hy, rfl, rfl, ?_⟩)))
          have e := St.set (g := g4) (x := x4) (c := c4) (rs := rs) (r := r) ⟨y.h, d, y.f, y.r⟩
          have e : (St g4 x4 c4 rs).set (2 + r) (.lst ([y.h, y.s, y.f, y.r].set 1 d)) = _ := e
          rw [e]
          exact TI.cut (next ⟨y.h, d, y.f, y.r⟩ ⟨hgy.h, hfd, hgy.f, hgy.r⟩ ⟨tl, etl, by omega⟩)
        refine as_if (at_test (ae_op (ae_var rfl (ae_int (ar_b0 ⟨_, rfl, fun h7 => ?_, fun h7 => ?_⟩)))))
        · refine as_asg (ae_op (ae_is (x := .d (.lst (badFirsts y.s))) ?_ ?_))
          · refine ae_lst (aa_cons (ae_op (ae_var rfl (ae_int (ur_ixM (St.at hy) rfl ?_)))))
            walk_at "alF"
            exact ⟨rfl, rfl⟩
          walk_at "alo"
          refine take_sent rfl (by decide) (by decide) fun v g4 x4 c4 v0 v1 => ?_
          rw [St.bag]
          obtain ⟨d, hd, hfd⟩ := first_at hgy.s v0 v1
          refine ur_ixL hd (ag_sub (ae_var rfl (ae_int ⟨2 + r, 2, _, 2, d, rfl, rfl, St.at hy, rfl, rfl, ?_⟩)))
          have e := St.set (g := g4) (x := x4) (c := c4) (rs := rs) (r := r) ⟨y.h, y.s, d, y.r⟩
          have e : (St g4 x4 c4 rs).set (2 + r) (.lst ([y.h, y.s, y.f, y.r].set 2 d)) = _ := e
          rw [e]
          exact TI.cut (next ⟨y.h, y.s, d, y.r⟩ ⟨hgy.h, hgy.s, hfd, hgy.r⟩ ⟨tl, etl, by omega⟩)
        have hfl : tl.all flatD = true := by
          obtain ⟨l, e, h, _⟩ := hgy.r
          rw [etl] at e
          cases e; exact h
        refine as_if (at_b (ae_cb (aa_cons (ae_op (ae_var rfl (ae_int (ur_ixM (St.at hy) rfl ?_)))))))
        rw [etl]
        walk_at "alo"
        refine uc_isiB True.intro (b := true) (kit_ty (by decide +kernel)) ⟨_, rfl, fun _ => ?_, (fun z => nomatch z)⟩
        refine as_seq (as_asgN (ae_op (ae_var rfl (ae_int (ur_ixM (St.at hy) rfl ?_)))))
        rw [etl]
        refine as_seq (as_asgN (ae_is (x := .d (.lst (badRules tl))) ?_ ?_))
        · have z1 : tl.length + 1 ≤ sizeLine := by rw [hz]; omega
          have z2 : (cutL tl (some 1) none).length + 1 ≤ sizeLine := by have := cutL_len tl (some 1) none; rw [hz]; omega
          have z3 : (cutL tl none (some (-1))).length + 1 ≤ sizeLine := by have := cutL_len tl none (some (-1)); rw [hz]; omega
          walk_at "alF"
          refine ur_addT z1 ?_
          walk_at "alF"
          refine ae_sliceTA (ae_var rfl ⟨_, rfl, ao_some (ae_int ⟨1, rfl, ao_none ?_⟩)⟩)
          walk_at "alF"
          refine ae_sliceTA (ae_var rfl ⟨_, rfl, ao_none (ao_some (ae_un (ae_int (au_i ⟨-1, rfl, ?_⟩))))⟩)
          walk_at "alF"
          refine ur_addT z3 ?_
          walk_at "alF"
          refine ae_sliceTA (ae_var rfl ⟨_, rfl, ao_some (ae_int ⟨1, rfl, ao_none ?_⟩)⟩)
          refine ur_addT (by rw [Nat.add_comm]; exact z2) ?_
          walk_at "alF"
          refine ae_sliceTA (ae_var rfl ⟨_, rfl, ao_none (ao_some (ae_un (ae_int (au_i ⟨-1, rfl, ?_⟩))))⟩)
          walk_at "alF"
          refine ur_addT z3 ?_
          walk_at "alF"
          exact ⟨rfl, rfl⟩
        · refine as_asg (ae_op (ae_op (ae_var rfl (ae_is (x := .d (.lst [.tup ([.non] ++ cutL tl (some 1) none)])) ?_ (ur_addL (.lst _) (.lst _) (by rw [hz]; simp [badRules]) ?_)))))
          · walk_at "alF"
            refine ae_sliceTA (ae_var rfl ⟨_, rfl, ao_some (ae_int ⟨1, rfl, ao_none ?_⟩)⟩)
            refine ur_addT (by have := cutL_len tl (some 1) none; rw [hz]; simp; omega) ?_
            walk_at "alF"
            exact ⟨rfl, rfl⟩
          walk_at "alo"
          refine take_sent rfl (by decide) (by decide) fun v g4 x4 c4 v0 v1 => ?_
          rw [St.bag]
          obtain ⟨l', hd, hfd, hln⟩ := rule_at hfl htl v0 v1
          refine ur_ixL hd (ag_sub (ae_var rfl (ae_int ⟨2 + r, 3, _, 3, _, rfl, rfl, St.at hy, rfl, rfl, ?_⟩)))
          have e := St.set (g := g4) (x := x4) (c := c4) (rs := rs) (r := r) ⟨y.h, y.s, y.f, .tup l'⟩
          have e : (St g4 x4 c4 rs).set (2 + r) (.lst ([y.h, y.s, y.f, y.r].set 3 (.tup l'))) = _ := e
          rw [e]
          exact TI.cut (next ⟨y.h, y.s, y.f, .tup l'⟩ ⟨hgy.h, hgy.s, hgy.f, l', rfl, hfd, by omega⟩ ⟨l', rfl, by omega⟩)
      · obtain ⟨g1, x1, c1, rs, a3, a4, a5, a6, a7, a8, rfl, rfl, hl, hg, hb, hi3⟩ := hi
        refine as_ret (ae_var rfl (.inl ⟨1, .d (.lst (rs.map Rd.l)), Nat.le_refl _, ?_, by simp [St, bag, MO.below], ?_⟩))
        · have := Froz.lls (n := 1) (M := St g1 x1 c1 rs) (k := 1) (js := (List.range rs.length).map fun j => 2 + j) (ls := rs.map fun y => [y.h, y.s, y.f, y.r]) (by decide) (by rw [List.map_map]; rfl) (by simp) fun i j l hj hl => ?_
          · rw [List.map_map] at this
            exact this
          · rw [List.getElem?_map] at hj hl
            obtain ⟨j', hj', rfl⟩ := Option.map_eq_some_iff.mp hj
            obtain ⟨y, hy, rfl⟩ := Option.map_eq_some_iff.mp hl
            have : j' = i := by
              have hi := (List.getElem?_eq_some_iff.mp hj').1
              rw [List.length_range] at hi
              rw [List.getElem?_range hi] at hj'
              exact (Option.some.inj hj').symm
            subst this
            exact ⟨by omega, St.at hy⟩
        · exact p rs g1 x1 c1 hl hg
end
end Wd

/-! plain facts for the law of webs refused -/
namespace Wd
open PySem PyProof.Rows L2 Al Gx
variable [Al.TabList]
def Word (s : Str) : Prop := s = "hears" ∨ s = "size" ∨ s = "first" ∨ s = "rule" ∨ s = "rooms"
theorem Word.ok {s : Str} (h : Word s) : PyData.strOk s = true := by
  rcases h with rfl | rfl | rfl | rfl | rfl <;> decide +kernel
theorem fault_word {rs : List Rd} {x : Rd} {s : Str} (h : faultD rs x = some s) : Word s := by
  unfold faultD at h
  split at h
  · split at h
    · split at h
      · split at h
        · cases h
        · cases h; exact .inr (.inr (.inr (.inl rfl)))
      · cases h; exact .inr (.inr (.inl rfl))
    · cases h; exact .inr (.inl rfl)
  · cases h; exact .inl rfl
theorem first_word {rs : List Rd} : ∀ {l : List Rd} {k : Nat} {i : Int} {s : Str}, firstF rs k l = some (i, s) → Word s
  | [], k, i, s, h => by cases h
  | x :: l, k, i, s, h => by
    have h : (match faultD rs x with | some s => some ((k : Int), s) | none => firstF rs (k + 1) l) = some (i, s) := h
    cases e : faultD rs x with
    | none => rw [e] at h; exact first_word h
    | some y => rw [e] at h; cases h; exact fault_word e
def OkF (o : Option (Int × Str)) : Prop := ∀ k s, o = some (k, s) → Word s
theorem pureF (o : Option (Int × Str)) : (optF o).pure = true := by
  cases o with
  | none => rfl
  | some q => rfl
theorem shapedF {o : Option (Int × Str)} (h : OkF o) : SeqAt.shaped (toP (optF o)) = true := by
  cases o with
  | none => rfl
  | some q =>
    have := (h _ _ rfl).ok
    show SeqAt.shaped (.tuple [.int q.1, .str q.2]) = true
    unfold SeqAt.shaped
    simp only [PyData.canLay0, PyData.canLayAll0, PyData.depth, PyData.depthAll, this]
    rfl
theorem eqvF (o : Option (Int × Str)) : PyData.eqv (toP (optF o)) (toP (optF o)) = true := by
  cases o with
  | none => simp [optF, toP, PyData.eqv]
  | some q =>
    show PyData.eqv (.tuple [.int q.1, .str q.2]) (.tuple [.int q.1, .str q.2]) = true
    simp [PyData.eqv, PyData.eqvAll]
section
variable {K : PySem.W.Frag} {M : List MO} {Φ : AV → List MO → Prop} {B : Base}
theorem ar_neF {o : Option (Int × Str)} (h : OkF o) (k : Φ (.d (.bl false)) M) : AR B K (uNe K) (.d (optF o)) (.d (optF o)) M Φ :=
  ur_neP (.d (pureF o)) (.d (pureF o)) (shapedF h) (shapedF h) (by rw [eqvF]; exact k)
theorem ar_eqF {o : Option (Int × Str)} (h : OkF o) (k : Φ (.d (.bl true)) M) : AR B K (uEq K) (.d (optF o)) (.d (optF o)) M Φ :=
  ur_eqP (.d (pureF o)) (.d (pureF o)) (shapedF h) (shapedF h) (by rw [eqvF]; exact k)
end
theorem tab_le {rms : List Rm} (h : Rms rms 12 3) : ∀ y ∈ rms, y.table.length ≤ 2000 := fun y hy => by
  have ok := h.ok y hy
  have hv : ∀ v ∈ rms.map Rm.size, 1 ≤ v ∧ v ≤ 3 := fun v hv => by
    obtain ⟨z, hz, rfl⟩ := List.mem_map.mp hv
    exact ⟨(h.ok z hz).s1, (h.ok z hz).sw⟩
  have h1 := prod_le (w := 3) (by decide) hv y.ears 1 (fun e he => by have := ok.rg e he; rw [List.length_map]; exact this) (by decide)
  rw [← ok.tl] at h1
  have h2 : (3 : Int) ^ y.ears.length ≤ 27 := by
    have := ok.few
    have : y.ears.length = 0 ∨ y.ears.length = 1 ∨ y.ears.length = 2 ∨ y.ears.length = 3 := by omega
    rcases this with e | e | e | e <;> rw [e] <;> decide
  omega
theorem webF {rs : List Rd} (h1 : 1 ≤ rs.length) (h2 : rs.length ≤ 12) : webD rs = firstF rs 0 rs := if_pos ⟨h1, h2⟩
/-- a room with a size alone -/
def sized (s : Int) : Rd := ⟨.tup [], .int s, .int 0, .tup [.int 0]⟩
theorem sized_fine (s : Int) : (sized s).Fine := ⟨rfl, rfl, rfl, .inl rfl⟩
/-- a room that hears three, with a table of so many noughts -/
def tabled (n : Nat) : Rd := ⟨.tup [.int 0, .int 1, .int 2], .int 2, .int 0, .tup (List.replicate n (.int 0))⟩
theorem tabled_fine (n : Nat) : (tabled n).Fine := ⟨rfl, rfl, rfl, .inl (by show (List.replicate n (D.int 0)).all flatD = true; simp [flatD])⟩
theorem rep_one (n : Nat) (x : D) : (List.replicate n [x]).flatten = List.replicate n x := by
  induction n with
  | zero => rfl
  | succ n ih => rw [List.replicate_succ, List.flatten_cons, ih]; rfl
theorem full_web : webD [sized 10, sized 10, sized 20, tabled 2000] = none := by decide +kernel
theorem over_web1 : webD [sized 3, sized 23, sized 29, tabled 2001] = some ((3 : Int), ("rule" : Str)) := by decide +kernel
theorem over_web2 : webD [sized 12, sized 12, sized 14, tabled 2016] = some ((3 : Int), ("rule" : Str)) := by decide +kernel
theorem over_web3 : webD [sized 13, sized 13, sized 13, tabled 2197] = some ((3 : Int), ("rule" : Str)) := by decide +kernel
/-- with a def -/
def freed (l : D) : Rd := ⟨.tup [.int 0, .int 1], .int 60, .int 0, l⟩
theorem freed_fine (f c : Addr) (F : Lm.LF) : (freed (lamD f c F)).Fine := ⟨rfl, rfl, rfl, .inr ⟨f, c, F, rfl⟩⟩
theorem free_web (f c : Addr) (F : Lm.LF) : webD [sized 60, sized 60, freed (lamD f c F)] = none := rfl
end Wd

namespace Wd
open PySem PyProof.Rows L2 Al Gx Lm
variable [Al.TabList]
theorem sc_law : FnScope ["_law_script", "_law_k", "_law_bag_here", "_law_rooms_here", "_law_made", "_law_odd", "_law_ears", "_law_wide", "_law_begin", "_law_deed_of", "_law_free", "_law_full", "_law_over", "_law_long"] ["_law_script"] (defScope (top 36)) := ⟨rfl, rfl, rfl, by decide +kernel, rfl, by decide +kernel, by decide +kernel⟩
abbrev aLaw : ASp := Fx.aLawS
local macro_rules | `(tactic| walk_at "alside") => `(tactic| first
  | decide
  | (dsimp only; decide)
  | exact Or.inr (by decide)
  | exact Or.inl (by decide)
  | (dsimp only; omega)
  | (unfold CDiv; omega)
  | (unfold CPow; omega)
  | (unfold CMul; omega)
  | assumption)
local macro_rules | `(tactic| walk_at "al1") => `(tactic| first
  | with_reducible refine as_asg ?_
  | with_reducible refine as_drop ?_
  | with_reducible refine as_ret ?_
  | with_reducible refine as_if ?_
  | with_reducible refine as_next ?_
  | with_reducible refine at_test ?_
  | with_reducible refine at_b ?_
  | with_reducible refine at_and ?_
  | with_reducible refine at_or ?_
  | with_reducible refine at_not ?_
  | with_reducible refine ae_op ?_
  | with_reducible refine ae_un ?_
  | with_reducible refine ae_cb ?_
  | with_reducible refine ae_if ?_
  | with_reducible refine ae_andV ?_
  | with_reducible refine ae_orV ?_
  | with_reducible refine ae_notV ?_
  | with_reducible refine ae_chain ?_
  | with_reducible refine ae_int ?_
  | with_reducible refine ae_bl ?_
  | with_reducible refine ae_non ?_
  | with_reducible refine ae_str ?_
  | with_reducible refine ae_ty ?_
  | with_reducible refine ae_adr ?_
  | with_reducible refine aa_nil ?_
  | with_reducible refine aa_cons ?_
  | with_reducible refine ag_name ?_
  | with_reducible refine ag_sub ?_
  | with_reducible refine at_yes ?_
  | ((with_reducible show AE _ _ (tVar _) _ _ _); refine ae_var rfl ?_)
  | ((with_reducible show AR _ _ (uAdd _) _ _ _ _); refine ur_addI ?_)
  | ((with_reducible show AR _ _ (uMul _) _ _ _ _); refine ur_mulI (by walk_at "alside") ?_)
  | ((with_reducible show AR _ _ (uEq _) _ _ _ _); first | refine ur_eqI ?_ | refine ur_eqS ?_ | refine ur_eqB ?_)
  | ((with_reducible show AR _ _ (uNe _) _ _ _ _); first | refine ur_neI ?_ | refine ur_neS ?_ | refine ur_neB ?_)
  | ((with_reducible show AR _ _ (rIx _) _ _ _ _); first | refine ur_ixM rfl rfl ?_ | refine ur_ixL rfl ?_ | refine ur_ixT rfl ?_ | refine ur_ixS rfl ?_)
  | ((with_reducible show AC _ _ (uLen _) _ _ _); first | refine uc_len (.tup _) ?_ | refine uc_len (.lst _) ?_ | refine uc_len (.scr _) ?_ | refine uc_len (.mm rfl) ?_)
  | ((with_reducible show AR _ _ (rI0 _) _ _ _ _); first | with_reducible refine ar_i0 ?_ | with_reducible refine ar_b0 ?_)
  | ((with_reducible show AU _ _ (rU _) _ _ _); with_reducible refine au_i ?_)
  | ((with_reducible show AR _ _ (rI _ _) _ _ _ _); refine ar_i (by walk_at "alside") ?_)
  | ((with_reducible show AR _ _ (rIxL _) _ _ _ _); first | refine ar_ixM rfl rfl ?_ | refine ar_ixL rfl ?_ | refine ar_ixS rfl ?_)
  | ((with_reducible show AR _ _ (rIxT _) _ _ _ _); refine ar_ixT rfl ?_)
  | ((with_reducible show AR _ _ rEq _ _ _ _); first | with_reducible refine ar_eqI ?_ | with_reducible refine ar_eqS ?_ | with_reducible refine ar_eqB ?_)
  | ((with_reducible show AR _ _ rNe _ _ _ _); first | with_reducible refine ar_neI ?_ | with_reducible refine ar_neS ?_ | with_reducible refine ar_neB ?_))
local macro_rules | `(tactic| walk_at "alds") => `(tactic| first
  | refine ⟨[], rfl, Nat.le_of_ble_eq_true rfl, ?_⟩
  | refine ⟨[_], rfl, Nat.le_of_ble_eq_true rfl, ?_⟩
  | refine ⟨[_, _], rfl, Nat.le_of_ble_eq_true rfl, ?_⟩
  | refine ⟨[_, _, _], rfl, Nat.le_of_ble_eq_true rfl, ?_⟩
  | refine ⟨[_, _, _, _], rfl, Nat.le_of_ble_eq_true rfl, ?_⟩
  | refine ⟨[_, _, _, _, _], rfl, Nat.le_of_ble_eq_true rfl, ?_⟩
  | refine ⟨[_, _, _, _, _, _], rfl, Nat.le_of_ble_eq_true rfl, ?_⟩
  | refine ⟨[_, _, _, _, _, _, _], rfl, Nat.le_of_ble_eq_true rfl, ?_⟩
  | refine ⟨[_, _, _, _, _, _, _, _], rfl, Nat.le_of_ble_eq_true rfl, ?_⟩
  | refine ⟨[_, _, _, _, _, _, _, _, _], rfl, Nat.le_of_ble_eq_true rfl, ?_⟩
  | refine ⟨[_, _, _, _, _, _, _, _, _, _], rfl, Nat.le_of_ble_eq_true rfl, ?_⟩
  | refine ⟨[_, _, _, _, _, _, _, _, _, _, _], rfl, Nat.le_of_ble_eq_true rfl, ?_⟩
  | refine ⟨[_, _, _, _, _, _, _, _, _, _, _, _], rfl, Nat.le_of_ble_eq_true rfl, ?_⟩)
local macro_rules | `(tactic| walk_at "alc") => `(tactic| refine ae_call0 (Ψ := fun _ _ => False) (by walk_at "almono") efits_none ?_)
local macro_rules | `(tactic| walk_at "al") => `(tactic| repeat (first | walk_at "al1" | with_reducible refine as_seq ?_ | with_reducible refine ae_tup ?_ | with_reducible walk_at "alc" | refine ⟨_, rfl, ?_⟩ | walk_at "alds" | refine ⟨_, _, _, _, _, rfl, rfl, rfl, rfl, rfl, ?_⟩))
local macro_rules | `(tactic| walk_at "alF") => `(tactic| repeat (first | walk_at "al1" | with_reducible refine as_seq ?_ | with_reducible refine ae_tup ?_ | with_reducible refine ae_lst ?_ | with_reducible walk_at "alc" | refine ⟨_, rfl, ?_⟩ | walk_at "alds" | refine ⟨_, _, _, _, _, rfl, rfl, rfl, rfl, rfl, ?_⟩))
local macro_rules | `(tactic| walk_at "alo") => `(tactic| repeat (first | walk_at "al1" | with_reducible refine ae_tup ?_ | with_reducible walk_at "alc" | refine ⟨_, rfl, ?_⟩ | walk_at "alds" | refine ⟨_, _, _, _, _, rfl, rfl, rfl, rfl, rfl, ?_⟩))
local macro_rules | `(tactic| walk_at "almono") => `(tactic| first | exact mono_take | exact mono_bag | exact mono_rms | exact mono_faulty | exact mono_refused2 | exact mono_due2)
theorem bag_sent {M : List MO} {ns : List Int} {k : Int} {Φ : AV → List MO → Prop} {Ψ : Exc → List MO → Prop} (h0 : 0 ≤ k) (h5 : k < 5) (hn : ns.length ≤ 100) (q : ∀ g x, Φ (.m M.length) (M ++ [bag g x 0])) : Sent aBag [.d (.scr (ns.map D.int)), .d (.int k)] M Φ Ψ :=
  sentN (ys := [.scr (ns.map D.int), .int k]) mono_bag ⟨ns, k, rfl, rfl, h0, h5, hn, fun g x => ⟨_, rfl, rfl, q g x⟩⟩
section
variable {K : PySem.W.Frag} {f T1 T2 : Addr} {fd : FuncData}
theorem kbS (F : FI K T1 T2 f fd) : KB K fd 1 ["size"] [0, 1, 4, 2, 3] T1 [.int 0, .ref T2] :=
  F.kbinds 1 ["size"] [("first", .int 0), ("rule", .ref T2)] (pick [0, 1, 4, 2, 3]) (by simp) (by simp) (by simp) (pick_rel _) fun T D doc pm an cdv ct us its mv ws h1 h2 h3 h4 =>
    match us, its, mv, ws, h1, h2, h3, h4 with
    | [_], [_], [_, _], [_], _, _, _, _ => ⟨_, rfl, _, _, _, _, _, _, rfl, rfl, _, _, _, _, _, _, rfl, rfl, rfl⟩
theorem kbT (F : FI K T1 T2 f fd) : KB K fd 2 ["size", "rule"] [0, 1, 4, 3, 5] T1 [.int 0] :=
  F.kbinds 2 ["size", "rule"] [("first", .int 0)] (pick [0, 1, 4, 3, 5]) (by simp) (by simp) (by simp) (pick_rel _) fun T D doc pm an cdv ct us its mv ws h1 h2 h3 h4 =>
    match us, its, mv, ws, h1, h2, h3, h4 with
    | [_, _], [_], [_], [_, _], _, _, _, _ => ⟨_, rfl, _, _, _, _, _, _, rfl, rfl, rfl⟩
end
/-- the kinds of what is no web -/
structure KindR (K : PySem.W.Frag) (C : Addr) : Prop where
  l : PySem.W.kitOne K (.type "list") (.ref C) = some false
  n : PySem.W.kitOne K (.type "NoneType") (.ref C) = some false
  t : PySem.W.kitOne K (.ref C) (.type "tuple") = some false
theorem sent_ref {K : PySem.W.Frag} {C : Addr} {M : List MO} {rs : List Rd} {Φ : AV → List MO → Prop} {Ψ : Exc → List MO → Prop} (hf : ∀ x ∈ rs, x.Fine) (hl : rs.length ≤ 1000) (q : Φ (.d (optF (webD rs))) M) : Sent (aRefused2 K C) [.d (.tup (rs.map (Rd.d C)))] M Φ Ψ :=
  sent0 (ys := [.tup (rs.map (Rd.d C))]) mono_refused2 ⟨_, rfl, rfl, .inl ⟨rs, rfl, hf, hl, rfl, _, rfl, q⟩⟩
theorem sent_not {K : PySem.W.Frag} {C : Addr} {M : List MO} {d : D} {Φ : AV → List MO → Prop} {Ψ : Exc → List MO → Prop} (hn : NotRooms K C d) (q : Φ (.d (optF (some (-1, "rooms")))) M) : Sent (aRefused2 K C) [.d d] M Φ Ψ :=
  sent0 (ys := [d]) mono_refused2 ⟨_, rfl, rfl, .inr ⟨hn, rfl, _, rfl, q⟩⟩
/-- the odd things -/
def odds (C : Addr) (l : List D) (x r : D) : List D := [.lst l, .tup [], .tup (List.replicate 13 x), .tup [x, r], .non, x, .str "rooms", .tup [.non], .int 7, .lst [.tup l]]
theorem odd_at {K : PySem.W.Frag} {C : Addr} {l : List D} {y : Rd} {r : List D} (IR : InsC K C) (KR : KindR K C) {q : Int} (h0 : 0 ≤ q) (h : q < 10) : ∃ d, atI (odds C l (y.d C) (.lst r)) q = some d ∧ NotRooms K C d := by
  obtain rfl | rfl | rfl | rfl | rfl | rfl | rfl | rfl | rfl | rfl : q = 0 ∨ q = 1 ∨ q = 2 ∨ q = 3 ∨ q = 4 ∨ q = 5 ∨ q = 6 ∨ q = 7 ∨ q = 8 ∨ q = 9 := by omega
  · exact ⟨_, rfl, True.intro, .inl (kit_ty (by decide +kernel))⟩
  · exact ⟨_, rfl, True.intro, .inr ⟨_, rfl, .inl rfl⟩⟩
  · exact ⟨_, rfl, True.intro, .inr ⟨_, rfl, .inr (.inl (by rw [List.length_replicate]; decide))⟩⟩
  · refine ⟨_, rfl, True.intro, .inr ⟨_, rfl, .inr (.inr ⟨fun y => match y with | .lst _ => false | _ => true, fun z hz => ?_, rfl⟩)⟩⟩
    rcases List.mem_cons.mp hz with rfl | hz
    · exact ⟨IR, if_pos (beq_self_eq_true _)⟩
    · rw [List.mem_singleton.mp hz]
      exact ⟨True.intro, KR.l⟩
  · exact ⟨_, rfl, True.intro, .inl (kit_ty (by decide +kernel))⟩
  · exact ⟨_, rfl, IR, .inl KR.t⟩
  · exact ⟨_, rfl, True.intro, .inl (kit_ty (by decide +kernel))⟩
  · refine ⟨_, rfl, True.intro, .inr ⟨_, rfl, .inr (.inr ⟨fun _ => false, fun z hz => ?_, rfl⟩)⟩⟩
    rw [List.mem_singleton.mp hz]
    exact ⟨True.intro, KR.n⟩
  · exact ⟨_, rfl, True.intro, .inl (kit_ty (by decide +kernel))⟩
  · exact ⟨_, rfl, True.intro, .inl (kit_ty (by decide +kernel))⟩
section
variable {P : Program} {w : World} {K : PySem.W.Frag} {mg : Str → Option Value} {base : Heap} {C_Room : Addr}
theorem ok_law2 {T1 T2 fI cl pl : Addr} {fdI : FuncData} (DD : DefAtC K mg "law" (top 36) ["_law_script"] cl) (T : Bt mg) (L_law : LamAt base mg cl pl "law.<locals>.<lambda>") (R : RoomC K C_Room) (R_Room : RoomM K C_Room T1 T2 fI fdI) (c_Room : mg "Room" = some (.ref C_Room))
    (IR : InsC K C_Room) (KR : KindR K C_Room)
    (G__law_bag : FnAt P w K mg base CX0 1 "_law_bag" ["_law_script", "_law_at"] aBag) (G__law_take : FnAt P w K mg base CX0 1 "_law_take" ["_law_bag_here", "_law_many"] aTake)
    (G__law_rooms : FnAt P w K mg base CX0 3 "_law_rooms" ["_law_bag_here", "_law_most", "_law_widest"] aRms)
    (G__law_faulty : FnAt P w K mg base CX0 3 "_law_faulty" ["_law_bag_here", "_law_rooms_here"] aFaulty)
    (G__law_due : FnAt P w K mg base CX0 4 "_law_due" ["_law_rooms_here"] aDue2)
    (G__law_refused : FnAt P w K mg base CX0 10 "_law_refused" ["_law_thing"] (aRefused2 K C_Room)) : FnAt P w K mg base CX0 11 "law" ["_law_script"] aLaw := by
  have GI_Room : FnOk P w K mg base CX0 1 fI fdI psI (conc K (aInitR C_Room)) := ok_initR R_Room.fi R
  obtain ⟨i1, m1, b_1_size_first_rule⟩ := kb1 R_Room.fi
  obtain ⟨i2, m2, b_0_size⟩ := kbS R_Room.fi
  obtain ⟨i3, m3, b_1_size_rule⟩ := kbT R_Room.fi
  have dT : ∀ W μ, RAs K W μ [.d (.tup [])] [.ref T1] := fun W μ => ras_cons (x := .d (.tup [])) (R_Room.t1 W) (show RAs K W μ [] [] from rfl)
  have dN : ∀ W μ, RAs K W μ [] [] := fun W μ => rfl
  have dS : ∀ W μ, RAs K W μ [.d (.int 0), .d (.tup [.int 0])] [.int 0, .ref T2] := fun W μ => ras_cons (x := .d (.int 0)) rfl (ras_cons (x := .d (.tup [.int 0])) (R_Room.t2 W) (show RAs K W μ [] [] from rfl))
  have dF : ∀ W μ, RAs K W μ [.d (.int 0)] [.int 0] := fun W μ => ras_cons (x := .d (.int 0)) rfl (show RAs K W μ [] [] from rfl)
  refine fnatC DD sc_law (fun xs M Φ Ψ h => ?_) (fun f A outer s H E hr => ⟨_, (pss_cons (ps_for PassesOwn.never rfl (pi_range1 rfl T.range (pa_cons (pe_op (k_add K) pe_int (pe_callB (call_min2 rfl) (by rfl) T.min (by decide +kernel) (pa_cons pe_int (pa_cons (pe_callB (k_len K) (by rfl) T.len (by decide +kernel) (pa_cons (pv 0) pa_nil)) pa_nil)))) pa_nil)) (pg_name (i := 1) sc_law.nd rfl (Or.inl rfl)) (pss_cons (ps_set (i := 2) sc_law.nd rfl (Or.inl rfl) (pe_fn G__law_bag (hr.mono (by decide)) rfl pass0 (pa_cons (pv 0) (pa_cons (pv 1) pa_nil)))) (pss_cons (ps_set (i := 3) sc_law.nd rfl (Or.inl rfl) (pe_fn G__law_faulty (hr.mono (by decide)) rfl pass0 (pa_cons (pv 2) (pa_cons (pe_fn G__law_rooms (hr.mono (by decide)) rfl pass0 (pa_cons (pv 2) (pa_cons pe_int (pa_cons pe_int pa_nil)))) pa_nil)))) (pss_cons (ps_set (i := 4) sc_law.nd rfl (Or.inl rfl) (pe_callTy (k_tupOf K) (by rfl) T.tuple (by decide +kernel) (pa_cons (pe_lc (own := [("_law_ears", 6), ("_law_wide", 7), ("_law_begin", 8), ("_law_deed_of", 9)]) rfl sc_law.nd (pi_seqK K (pv 3)) (blkOk_by (own := [("_law_ears", 6), ("_law_wide", 7), ("_law_begin", 8), ("_law_deed_of", 9)]) (N := ["_law_script", "_law_k", "_law_bag_here", "_law_rooms_here", "_law_made", "_law_odd", "_law_ears", "_law_wide", "_law_begin", "_law_deed_of", "_law_free", "_law_full", "_law_over", "_law_long"]) (sc := defScope (top 36)) (by decide +kernel)) (fun _ _ _ _ _ => by exact (pg_lstK (n := 4) K rfl (pgs_cons (pg_name (i := 6) sc_law.nd rfl (Or.inl rfl)) (pgs_cons (pg_name (i := 7) sc_law.nd rfl (Or.inl rfl)) (pgs_cons (pg_name (i := 8) sc_law.nd rfl (Or.inl rfl)) (pgs_cons (pg_name (i := 9) sc_law.nd rfl (Or.inl rfl)) pgs_nil)))))) (fun _ _ _ _ _ => by exact pts_nil) (fun _ _ _ _ _ => by exact (pe_makeK R_Room.mk_ GI_Room (hr.mono (by decide)) rfl c_Room b_1_size_first_rule pass0 (pa_cons (pv 6) pa_nil) (pk_cons (pv 7) (pk_cons (pv 8) (pk_cons (pv 9) pk_nil)))))) pa_nil))) (pss_cons (ps_if (pt_cmpR (k_ne K hr.units) (pe_fn G__law_refused (hr.mono (by decide)) rfl pass0 (pa_cons (pv 4) pa_nil)) (pe_fn G__law_due (hr.mono (by decide)) rfl pass0 (pa_cons (pv 3) pa_nil)) (nomark _)) (pss_one (ps_ret pe_bl)) pss_nil) (pss_cons (ps_set (i := 5) sc_law.nd rfl (Or.inl rfl) (pe_lst (pa_cons (pe_callTy (k_listOf K) (by rfl) T.list (by decide +kernel) (pa_cons (pv 4) pa_nil)) (pa_cons (pe_tup pa_nil) (pa_cons (pe_op (k_mul K) (pe_slice (k_slA K) (pv 4) po_none (po_some pe_int)) pe_int) (pa_cons (pe_op (k_add K) (pe_slice (k_slA K) (pv 4) po_none (po_some pe_int)) (pe_tup (pa_cons (pe_ix (k_ix K) (pv 3) pe_int (fun _ _ => rfl)) pa_nil))) (pa_cons pe_non (pa_cons (pe_ix (k_ix K) (pv 4) pe_int (fun _ _ => rfl)) (pa_cons pe_str (pa_cons (pe_tup (pa_cons pe_non pa_nil)) (pa_cons pe_int (pa_cons (pe_lst (pa_cons (pv 4) pa_nil)) pa_nil)))))))))))) (pss_one (ps_if (pt_cmpR (k_ne K hr.units) (pe_fn G__law_refused (hr.mono (by decide)) rfl pass0 (pa_cons (pe_ix (k_ix K) (pv 5) (pe_fn G__law_take (hr.mono (by decide)) rfl pass0 (pa_cons (pv 2) (pa_cons pe_int pa_nil))) (fun _ _ => rfl)) pa_nil)) (pe_tup (pa_cons (pe_un un_neg pe_int) (pa_cons pe_str pa_nil))) (nomark _)) (pss_one (ps_ret pe_bl)) pss_nil)))))))) (pss_cons (ps_set (i := 10) sc_law.nd rfl (Or.inl rfl) (pe_makeK R_Room.mk_ GI_Room (hr.mono (by decide)) rfl c_Room b_1_size_rule pass0 (pa_cons (pe_tup (pa_cons pe_int (pa_cons pe_int pa_nil))) pa_nil) (pk_cons pe_int (pk_cons (pe_lamV L_law rfl rfl rfl (NdefX.ndef_free (sc := defScope (top 36)) (fr := []) (by decide +kernel))) pk_nil)))) (pss_cons (ps_if (pt_cmpR op_notN (pe_fn G__law_refused (hr.mono (by decide)) rfl pass0 (pa_cons (pe_tup (pa_cons (pe_makeK0 R_Room.mk_ GI_Room (hr.mono (by decide)) rfl c_Room b_0_size pass0 (pk_cons pe_int pk_nil)) (pa_cons (pe_makeK0 R_Room.mk_ GI_Room (hr.mono (by decide)) rfl c_Room b_0_size pass0 (pk_cons pe_int pk_nil)) (pa_cons (pv 10) pa_nil)))) pa_nil)) pe_non (nomark _)) (pss_one (ps_ret pe_bl)) pss_nil) (pss_cons (ps_set (i := 11) sc_law.nd rfl (Or.inl rfl) (pe_makeK R_Room.mk_ GI_Room (hr.mono (by decide)) rfl c_Room b_1_size_rule pass0 (pa_cons (pe_tup (pa_cons pe_int (pa_cons pe_int (pa_cons pe_int pa_nil)))) pa_nil) (pk_cons pe_int (pk_cons (pe_op (op_repW K) (pe_tup (pa_cons pe_int pa_nil)) pe_int) pk_nil)))) (pss_cons (ps_if (pt_cmpR op_notN (pe_fn G__law_refused (hr.mono (by decide)) rfl pass0 (pa_cons (pe_tup (pa_cons (pe_makeK0 R_Room.mk_ GI_Room (hr.mono (by decide)) rfl c_Room b_0_size pass0 (pk_cons pe_int pk_nil)) (pa_cons (pe_makeK0 R_Room.mk_ GI_Room (hr.mono (by decide)) rfl c_Room b_0_size pass0 (pk_cons pe_int pk_nil)) (pa_cons (pe_makeK0 R_Room.mk_ GI_Room (hr.mono (by decide)) rfl c_Room b_0_size pass0 (pk_cons pe_int pk_nil)) (pa_cons (pv 11) pa_nil))))) pa_nil)) pe_non (nomark _)) (pss_one (ps_ret pe_bl)) pss_nil) (pss_cons (ps_set (i := 12) sc_law.nd rfl (Or.inl rfl) (pe_makeK R_Room.mk_ GI_Room (hr.mono (by decide)) rfl c_Room b_1_size_rule pass0 (pa_cons (pe_tup (pa_cons pe_int (pa_cons pe_int (pa_cons pe_int pa_nil)))) pa_nil) (pk_cons pe_int (pk_cons (pe_op (op_repW K) (pe_tup (pa_cons pe_int pa_nil)) pe_int) pk_nil)))) (pss_cons (ps_if (pt_cmpR (k_ne K hr.units) (pe_fn G__law_refused (hr.mono (by decide)) rfl pass0 (pa_cons (pe_tup (pa_cons (pe_makeK0 R_Room.mk_ GI_Room (hr.mono (by decide)) rfl c_Room b_0_size pass0 (pk_cons pe_int pk_nil)) (pa_cons (pe_makeK0 R_Room.mk_ GI_Room (hr.mono (by decide)) rfl c_Room b_0_size pass0 (pk_cons pe_int pk_nil)) (pa_cons (pe_makeK0 R_Room.mk_ GI_Room (hr.mono (by decide)) rfl c_Room b_0_size pass0 (pk_cons pe_int pk_nil)) (pa_cons (pv 12) pa_nil))))) pa_nil)) (pe_tup (pa_cons pe_int (pa_cons pe_str pa_nil))) (nomark _)) (pss_one (ps_ret pe_bl)) pss_nil) (pss_cons (ps_set (i := 12) sc_law.nd rfl (Or.inl rfl) (pe_makeK R_Room.mk_ GI_Room (hr.mono (by decide)) rfl c_Room b_1_size_rule pass0 (pa_cons (pe_tup (pa_cons pe_int (pa_cons pe_int (pa_cons pe_int pa_nil)))) pa_nil) (pk_cons pe_int (pk_cons (pe_op (op_repW K) (pe_tup (pa_cons pe_int pa_nil)) pe_int) pk_nil)))) (pss_cons (ps_if (pt_cmpR (k_ne K hr.units) (pe_fn G__law_refused (hr.mono (by decide)) rfl pass0 (pa_cons (pe_tup (pa_cons (pe_makeK0 R_Room.mk_ GI_Room (hr.mono (by decide)) rfl c_Room b_0_size pass0 (pk_cons pe_int pk_nil)) (pa_cons (pe_makeK0 R_Room.mk_ GI_Room (hr.mono (by decide)) rfl c_Room b_0_size pass0 (pk_cons pe_int pk_nil)) (pa_cons (pe_makeK0 R_Room.mk_ GI_Room (hr.mono (by decide)) rfl c_Room b_0_size pass0 (pk_cons pe_int pk_nil)) (pa_cons (pv 12) pa_nil))))) pa_nil)) (pe_tup (pa_cons pe_int (pa_cons pe_str pa_nil))) (nomark _)) (pss_one (ps_ret pe_bl)) pss_nil) (pss_cons (ps_set (i := 13) sc_law.nd rfl (Or.inl rfl) (pe_makeK R_Room.mk_ GI_Room (hr.mono (by decide)) rfl c_Room b_1_size_rule pass0 (pa_cons (pe_tup (pa_cons pe_int (pa_cons pe_int (pa_cons pe_int pa_nil)))) pa_nil) (pk_cons pe_int (pk_cons (pe_op (op_repW K) (pe_tup (pa_cons pe_int pa_nil)) pe_int) pk_nil)))) (pss_one (ps_ret (pe_cmpR (k_eq K hr.units) (pe_fn G__law_refused (hr.mono (by decide)) rfl pass0 (pa_cons (pe_tup (pa_cons (pe_makeK0 R_Room.mk_ GI_Room (hr.mono (by decide)) rfl c_Room b_0_size pass0 (pk_cons pe_int pk_nil)) (pa_cons (pe_makeK0 R_Room.mk_ GI_Room (hr.mono (by decide)) rfl c_Room b_0_size pass0 (pk_cons pe_int pk_nil)) (pa_cons (pe_makeK0 R_Room.mk_ GI_Room (hr.mono (by decide)) rfl c_Room b_0_size pass0 (pk_cons pe_int pk_nil)) (pa_cons (pv 13) pa_nil))))) pa_nil)) (pe_tup (pa_cons pe_int (pa_cons pe_str pa_nil))) (nomark _)))))))))))))), fun B xs M Φ Ψ hB h => ?_⟩)
  · obtain ⟨ns, rfl, _⟩ := h
    rfl
  · obtain ⟨ns, rfl, rfl, hn, k⟩ := h
    have hsz : sizeLine = 16777216 := sizeLine_eq
    refine as_seq (as_for (n := 0) (fun _ σ M => M = [] ∧ ∃ b : List (Option AV), σ = some (.d (.scr (ns.map D.int))) :: b ∧ b.length = 13) (by rintro _ _ _ ⟨rfl, _⟩; rfl) (ai_rng1 ?_))
    walk_at "al"
    refine ac_min ?_
    walk_at "al"
    rw [List.length_map]
    have hj : ∃ j : Int, 1 ≤ j ∧ j ≤ 5 ∧ (1 + if (ns.length : Int) < 4 then (ns.length : Int) else 4) = j := ⟨_, by split <;> omega, by split <;> omega, rfl⟩
    obtain ⟨j, j1, j5, ej⟩ := hj
    rw [ej]
    refine ⟨by omega, by omega, ⟨rfl, _, rfl, rfl⟩, ?_, ?_⟩
    · rintro i d σ' M' hi ⟨rfl, b, rfl, hb⟩
      obtain ⟨b1, b2, b3, b4, b5, b6, b7, b8, b9, b10, b11, b12, b13, rfl⟩ : ∃ b1 b2 b3 b4 b5 b6 b7 b8 b9 b10 b11 b12 b13, b = [b1, b2, b3, b4, b5, b6, b7, b8, b9, b10, b11, b12, b13] :=
        match b, hb with | [b1, b2, b3, b4, b5, b6, b7, b8, b9, b10, b11, b12, b13], _ => ⟨b1, b2, b3, b4, b5, b6, b7, b8, b9, b10, b11, b12, b13, rfl⟩
      obtain ⟨hi, rfl⟩ := rngD_get hi
      have k0 : (0 : Int) ≤ 0 + (i : Int) := by omega
      have k5 : (0 : Int) + (i : Int) < 5 := by omega
      generalize hk : (0 : Int) + (i : Int) = kk at k0 k5 ⊢
      walk_at "alo"
      refine as_seq ?_
      walk_at "alo"
      refine bag_sent k0 k5 (by omega) fun g x => ?_
      walk_at "alo"
      refine as_seq ?_
      walk_at "alo"
      refine sent1 (xs' := [.m 0, .d (.int 12), .d (.int 3)]) mono_rms rfl rfl rfl ⟨_, _, _, 12, 3, rfl, rfl, by decide, by decide, by decide, by decide, fun rms g3 x3 c3 hR => ⟨_, _, rfl, rfl, ?_⟩⟩
      have n1 := hR.n1
      have nm := hR.nm
      walk_at "alo"
      refine sent1 (xs' := [.m 0, .d (.lst (rms.map Rm.t))]) mono_faulty rfl rfl rfl ⟨_, _, _, rms, rfl, rfl, n1, by omega, tab_le hR, fun rs g4 x4 c4 hl hg => ⟨_, _, rfl, rfl, ?_⟩⟩
      refine ag_name ?_
      show AS B K _ [some (.d (.scr (ns.map D.int))), some (.d (.int kk)), some (.m 0), some (.d (.lst (rs.map Rd.l))), b4, b5, b6, b7, b8, b9, b10, b11, b12, b13] [bag g4 x4 c4] _
      have hf : ∀ x ∈ rs, x.Fine := fun x hx => (hg x hx).fine
      refine as_seq (as_asgN (ae_cb (aa_cons (ae_map (l := rs.map Rd.l) (fun d => match d with | .lst [h, s, f, r] => Rd.d C_Room ⟨h, s, f, r⟩ | _ => .non) (by simp [MO.below, bag]) (gk_lst (gks_name rfl (gks_name rfl (gks_name rfl (gks_name rfl gks_nil))))) (by rw [List.length_map, hsz]; omega)
        (ai_seqL (ae_var rfl ⟨_, rfl, rfl, rfl, ?_⟩)) fun d hd acc => ?_))))
      rotate_left
      · obtain ⟨u, hu, rfl⟩ := List.mem_map.mp hd
        refine ag_lst rfl (ags_cons (ag_name (ags_cons (ag_name (ags_cons (ag_name (ags_cons (ag_name (ags_nil ?_)))))))))
        refine ae_makeP (Ψ := fun _ _ => False) mono_initR efits_none dT dN ?_
        walk_at "al"
        exact ⟨rfl, rfl, sent_room (by simp [MO.below, bag]) ⟨rfl, rfl⟩⟩
      refine aa_nil (uc_tuple (.lst _) ?_)
      rw [List.map_map]
      rw [show rs.map ((fun d => match d with | .lst [h, s, f, r] => Rd.d C_Room ⟨h, s, f, r⟩ | _ => .non) ∘ Rd.l) = rs.map (Rd.d C_Room) from List.map_congr_left fun x _ => rfl]
      have hF : OkF (firstF rs 0 rs) := fun k s h => first_word h
      refine as_seq (as_if (at_test (ae_op ?_)))
      walk_at "alo"
      refine sent_ref hf (by omega) ?_
      walk_at "alo"
      refine sent0 (ys := [.lst (rs.map Rd.l)]) mono_due2 ⟨rs, rfl, rfl, hg, by omega, rfl, _, rfl, ?_⟩
      rw [webF (by omega) (by omega)]
      refine ar_neF hF ⟨_, rfl, (fun z => nomatch z), fun _ => as_next ?_⟩
      obtain ⟨y, rest, rfl⟩ : ∃ y rest, rs = y :: rest := by
        cases rs with
        | nil => rw [List.length_nil] at hl; omega
        | cons y rest => exact ⟨y, rest, rfl⟩
      have cut1 : cutL ((y :: rest).map (Rd.d C_Room)) none (some ((1 : Nat) : Int)) = [y.d C_Room] := by
        rw [cutL_lo]; rfl
      have sl1 : ∀ {σ : AEnv} {M : List MO} {Φ : AV → List MO → Prop}, σ[4]? = some (some (.d (.tup ((y :: rest).map (Rd.d C_Room))))) → Φ (.d (.tup [y.d C_Room])) M → AE B K (tSl (rSlA K) (tVar 4) tNoPart (tPart (tC (V.int 1)))) σ M Φ := fun h q =>
        ae_sliceTA (ae_var h ⟨_, rfl, ao_none (ao_some (ae_int ⟨((1 : Nat) : Int), rfl, by rw [cut1]; exact q⟩))⟩)
      have at0 : atI ((y :: rest).map (Rd.d C_Room)) 0 = some (y.d C_Room) := atI_natD (i := 0) rfl
      have at0l : atI ((y :: rest).map Rd.l) 0 = some y.l := atI_natD (i := 0) rfl
      refine as_seq (as_asgN (ae_is (x := .d (.lst (odds C_Room ((y :: rest).map (Rd.d C_Room)) (y.d C_Room) y.l))) ?_ ?_))
      · walk_at "alF"
        refine uc_listT ?_
        walk_at "alF"
        refine sl1 rfl ?_
        refine ae_int (ur_mulT (by simp) (by decide) (by decide) (by simp) ?_)
        rw [rep_one]
        walk_at "alF"
        refine sl1 rfl ?_
        walk_at "alF"
        refine ur_ixL at0l ?_
        walk_at "alF"
        refine ur_addT (by rw [hsz]; simp) ?_
        walk_at "alF"
        refine ur_ixT at0 ?_
        walk_at "alF"
        exact ⟨rfl, rfl⟩
      refine as_if (at_test (ae_op ?_))
      walk_at "alo"
      refine take_sent rfl (by decide) (by decide) fun r g5 x5 c5 r0 r1 => ?_
      obtain ⟨o, ho, hno⟩ := odd_at (l := (y :: rest).map (Rd.d C_Room)) (y := y) (r := [y.h, y.s, y.f, y.r]) IR KR r0 r1
      refine ur_ixL ho ?_
      walk_at "alo"
      refine sent_not hno ?_
      walk_at "alo"
      refine ar_neF (o := some (-1, "rooms")) (fun k s h => by cases h; exact .inr (.inr (.inr (.inr rfl)))) ⟨_, rfl, (fun z => nomatch z), fun _ => as_next ?_⟩
      exact ⟨by simp, rfl, _, rfl, rfl⟩
    · rintro σ' M' ⟨rfl, b, rfl, hb⟩
      obtain ⟨b1, b2, b3, b4, b5, b6, b7, b8, b9, b10, b11, b12, b13, rfl⟩ : ∃ b1 b2 b3 b4 b5 b6 b7 b8 b9 b10 b11 b12 b13, b = [b1, b2, b3, b4, b5, b6, b7, b8, b9, b10, b11, b12, b13] :=
        match b, hb with | [b1, b2, b3, b4, b5, b6, b7, b8, b9, b10, b11, b12, b13], _ => ⟨b1, b2, b3, b4, b5, b6, b7, b8, b9, b10, b11, b12, b13, rfl⟩
      have rS : ∀ {σ : AEnv} {Φ : AV → List MO → Prop} {s : Int}, Φ (.d (Rd.d C_Room (sized s))) [] → AE B K (tMakeK C_Room 0 1 (conc K (aInitR C_Room)) (fun vs zs => pick [0, 1, 4, 2, 3] vs [.ref T1] [.int 0, .ref T2] zs) E0 tNil (tCons (tC (V.int s)) tNil)) σ [] Φ := fun {σ Φ s} q =>
        ae_makeP (Ψ := fun _ _ => False) mono_initR efits_none dT dS (aa_nil (aa_cons (ae_int (aa_nil ⟨rfl, rfl, sent_room (M := []) (h := .tup []) (s := .int s) (f := .int 0) (r := .tup [.int 0]) (by simp) q⟩))))
      refine as_seq (as_asgN (ae_makeP (Ψ := fun _ _ => False) mono_initR efits_none dT dF ?_))
      walk_at "al"
      refine ae_lamV L_law.mem fun lf lc => ?_
      walk_at "al"
      refine ⟨rfl, rfl, sent_room (M := []) (h := .tup [.int 0, .int 1]) (s := .int 60) (f := .int 0) (r := lamD lf lc _) (by simp) ?_⟩
      have fR : ∀ F : LF, ∀ u ∈ [sized 60, sized 60, freed (lamD lf lc F)], u.Fine := fun F u hu => by
        simp only [List.mem_cons, List.not_mem_nil, or_false] at hu
        rcases hu with rfl | rfl | rfl
        · exact sized_fine _
        · exact sized_fine _
        · exact freed_fine _ _ _
      have call4 : ∀ {σ : AEnv} {Φ : AV → List MO → Prop} {i n : Nat} {a b c : Int}, σ[i]? = some (some (.d (Rd.d C_Room (tabled n)))) → Φ (.d (optF (webD [sized a, sized b, sized c, tabled n]))) [] →
          AE B K (tCall (conc K (aRefused2 K C_Room)) [] E0 (tCons (tTup (tCons (tMakeK C_Room 0 1 (conc K (aInitR C_Room)) (fun vs zs => pick [0, 1, 4, 2, 3] vs [.ref T1] [.int 0, .ref T2] zs) E0 tNil (tCons (tC (V.int a)) tNil))
            (tCons (tMakeK C_Room 0 1 (conc K (aInitR C_Room)) (fun vs zs => pick [0, 1, 4, 2, 3] vs [.ref T1] [.int 0, .ref T2] zs) E0 tNil (tCons (tC (V.int b)) tNil))
            (tCons (tMakeK C_Room 0 1 (conc K (aInitR C_Room)) (fun vs zs => pick [0, 1, 4, 2, 3] vs [.ref T1] [.int 0, .ref T2] zs) E0 tNil (tCons (tC (V.int c)) tNil)) (tCons (tVar i) tNil))))) tNil)) σ [] Φ := fun {σ Φ i n a b c} hσ q => by
        refine ae_call0 (Ψ := fun _ _ => False) mono_refused2 efits_none ?_
        refine aa_cons (ae_tup (aa_cons (rS (aa_cons (rS (aa_cons (rS (aa_cons (ae_var hσ (aa_nil ⟨[_, _, _, _], rfl, Nat.le_of_ble_eq_true rfl, aa_nil ?_⟩))))))))))
        refine sent_ref (rs := [sized a, sized b, sized c, tabled n]) (fun u hu => ?_) (by simp) q
        simp only [List.mem_cons, List.not_mem_nil, or_false] at hu
        rcases hu with rfl | rfl | rfl | rfl
        · exact sized_fine _
        · exact sized_fine _
        · exact sized_fine _
        · exact tabled_fine _
      refine as_seq (as_if (at_test (ae_op ?_)))
      refine ae_call0 (Ψ := fun _ _ => False) mono_refused2 efits_none ?_
      refine aa_cons (ae_tup (aa_cons (rS (aa_cons (rS (aa_cons (ae_var rfl (aa_nil ⟨[_, _, _], rfl, Nat.le_of_ble_eq_true rfl, aa_nil ?_⟩))))))))
      refine sent_ref (fR _) (by simp) ?_
      rw [free_web]
      refine ae_non (ar_notN ⟨_, rfl, (fun z => nomatch z), fun _ => as_next ?_⟩)
      have mk : ∀ {σ : AEnv} {Φ : AV → List MO → Prop} {k : Int}, 2 ≤ k → k ≤ 10000 → Φ (.d (Rd.d C_Room (tabled k.toNat))) [] → AE B K (tMakeK C_Room 1 2 (conc K (aInitR C_Room)) (fun vs zs => pick [0, 1, 4, 3, 5] vs [.ref T1] [.int 0] zs) E0
          (tCons (tTup (tCons (tC (V.int 0)) (tCons (tC (V.int 1)) (tCons (tC (V.int 2)) tNil)))) tNil) (tCons (tC (V.int 2)) (tCons (tOp (rRepW K) (tTup (tCons (tC (V.int 0)) tNil)) (tC (V.int k))) tNil))) σ [] Φ := fun {σ Φ k} k2 k3 q => by
        refine ae_makeP (Ψ := fun _ _ => False) mono_initR efits_none dT dF ?_
        refine aa_cons (ae_tup (aa_cons (ae_int (aa_cons (ae_int (aa_cons (ae_int (aa_nil ⟨[_, _, _], rfl, Nat.le_of_ble_eq_true rfl, aa_nil ?_⟩))))))))
        refine aa_cons (ae_int (aa_cons (ae_op (ae_tup (aa_cons (ae_int (aa_nil ⟨[_], rfl, Nat.le_of_ble_eq_true rfl, ae_int (ar_repW (by simp) k2 k3 (by simp) (aa_nil ⟨rfl, rfl, ?_⟩))⟩)))))))
        rw [rep_one]
        exact sent_room (M := []) (h := .tup [.int 0, .int 1, .int 2]) (s := .int 2) (f := .int 0) (r := .tup (List.replicate k.toNat (.int 0))) (by simp) q
      refine as_seq (as_asgN (mk (by decide) (by decide) ?_))
      refine as_seq (as_if (at_test (ae_op (call4 rfl ?_))))
      rw [show (2000 : Int).toNat = 2000 from rfl, full_web]
      refine ae_non (ar_notN ⟨_, rfl, (fun z => nomatch z), fun _ => as_next ?_⟩)
      have okR : OkF (some ((3 : Int), ("rule" : Str))) := fun k s h => by cases h; exact .inr (.inr (.inr (.inl rfl)))
      refine as_seq (as_asgN (mk (by decide) (by decide) ?_))
      refine as_seq (as_if (at_test (ae_op (call4 rfl ?_))))
      rw [show (2001 : Int).toNat = 2001 from rfl, over_web1]
      walk_at "al"
      refine ar_neF okR ⟨_, rfl, (fun z => nomatch z), fun _ => as_next ?_⟩
      refine as_seq (as_asgN (mk (by decide) (by decide) ?_))
      refine as_seq (as_if (at_test (ae_op (call4 rfl ?_))))
      rw [show (2016 : Int).toNat = 2016 from rfl, over_web2]
      walk_at "al"
      refine ar_neF okR ⟨_, rfl, (fun z => nomatch z), fun _ => as_next ?_⟩
      refine as_seq (as_asgN (mk (by decide) (by decide) ?_))
      refine as_ret (ae_op (call4 rfl ?_))
      rw [show (2197 : Int).toNat = 2197 from rfl, over_web3]
      walk_at "al"
      refine ar_eqF okR ?_
      exact rt_d k
end
end Wd

namespace Wd
open PySem PyProof.Rows L2 Al Gx
variable [Al.TabList]
theorem bf_is_whole : Fx.BindF "is_whole" "is_whole" (top 9) ["thing"] := fun _ _ _ _ _ _ us hl => match us, hl with | [_], _ => rfl
theorem bf_is_from : Fx.BindF "is_from" "is_from" (top 10) ["thing", "least", "most"] := fun _ _ _ _ _ _ us hl => match us, hl with | [_, _, _], _ => rfl
theorem bf_is_size : Fx.BindF "is_size" "is_size" (top 17) ["thing"] := fun _ _ _ _ _ _ us hl => match us, hl with | [_], _ => rfl
theorem bf_are_hears : Fx.BindF "are_hears" "are_hears" (top 18) ["thing", "many"] := fun _ _ _ _ _ _ us hl => match us, hl with | [_, _], _ => rfl
theorem bf_rows_heard : Fx.BindF "rows_heard" "rows_heard" (top 19) ["rooms", "hears"] := fun _ _ _ _ _ _ us hl => match us, hl with | [_, _], _ => rfl
theorem bf_is_rule : Fx.BindF "is_rule" "is_rule" (top 20) ["rooms", "at"] := fun _ _ _ _ _ _ us hl => match us, hl with | [_, _], _ => rfl
theorem bf_fault_of : Fx.BindF "fault_of" "fault_of" (top 21) ["rooms", "at"] := fun _ _ _ _ _ _ us hl => match us, hl with | [_, _], _ => rfl
theorem bf_look_rooms : Fx.BindF "look_rooms" "look_rooms" (top 22) ["rooms"] := fun _ _ _ _ _ _ us hl => match us, hl with | [_], _ => rfl
theorem bf_Web___init__ : Fx.BindF "__init__" "Web.__init__" (inClass (top 23) 0) ["self", "rooms"] := fun _ _ _ _ _ _ us hl => match us, hl with | [_, _], _ => rfl
theorem it_NoWeb : Gx.IniT (inClass (top 2) 0) "NoWeb.__init__" ["at", "what"] := ⟨rfl, rfl, rfl, fun x hx => by simp only [List.mem_cons, List.not_mem_nil, or_false] at hx; rcases hx with rfl | rfl | rfl <;> decide, fun L a cd x hx => by simp only [List.mem_cons, List.not_mem_nil, or_false] at hx; rcases hx with rfl | rfl | rfl <;> rfl, fun us h => match us, h with | [_, _, _], _ => rfl, fun L a cd us h i x u hx hu => match us, h with | [_, _, _], _ => match i, hx, hu with
  | 0, hx, hu => by cases Option.some.inj hx; cases Option.some.inj hu; rfl
  | 1, hx, hu => by cases Option.some.inj hx; cases Option.some.inj hu; rfl
  | 2, hx, hu => by cases Option.some.inj hx; cases Option.some.inj hu; rfl
  | n + 3, hx, hu => by simp at hx⟩
theorem bi_NoWeb : ∀ (kV doc pm : Value) (an : Option Addr) (cdv ct : Value) (us : List Value), us.length = 3 → bindArgs (PySem.W.fnOf "__init__" "NoWeb.__init__" (defArgs (inClass (top 2) 0)) (defBody (inClass (top 2) 0)) (defScope (inClass (top 2) 0)) .none kV doc pm an cdv ct) ⟨us, []⟩ = pure ((["self", "at", "what"] : List Str).zip us) := fun _ _ _ _ _ _ us hl => match us, hl with | [_, _, _], _ => rfl
theorem bf__law_bag : Fx.BindF "_law_bag" "_law_bag" (top 25) ["_law_script", "_law_at"] := fun _ _ _ _ _ _ us hl => match us, hl with | [_, _], _ => rfl
theorem bf__law_take : Fx.BindF "_law_take" "_law_take" (top 26) ["_law_bag_here", "_law_many"] := fun _ _ _ _ _ _ us hl => match us, hl with | [_, _], _ => rfl
theorem bf__law_unlike : Fx.BindF "_law_unlike" "_law_unlike" (top 27) ["_law_bag_here", "_law_many", "_law_count"] := fun _ _ _ _ _ _ us hl => match us, hl with | [_, _, _], _ => rfl
theorem bf__law_rooms : Fx.BindF "_law_rooms" "_law_rooms" (top 28) ["_law_bag_here", "_law_most", "_law_widest"] := fun _ _ _ _ _ _ us hl => match us, hl with | [_, _, _], _ => rfl
theorem bf__law_whole : Fx.BindF "_law_whole" "_law_whole" (top 29) ["_law_thing"] := fun _ _ _ _ _ _ us hl => match us, hl with | [_], _ => rfl
theorem bf__law_faulty : Fx.BindF "_law_faulty" "_law_faulty" (top 30) ["_law_bag_here", "_law_rooms_here"] := fun _ _ _ _ _ _ us hl => match us, hl with | [_, _], _ => rfl
theorem bf__law_hears_right : Fx.BindF "_law_hears_right" "_law_hears_right" (top 31) ["_law_ears", "_law_many"] := fun _ _ _ _ _ _ us hl => match us, hl with | [_, _], _ => rfl
theorem bf__law_size_right : Fx.BindF "_law_size_right" "_law_size_right" (top 32) ["_law_wide"] := fun _ _ _ _ _ _ us hl => match us, hl with | [_], _ => rfl
theorem bf__law_rule_right : Fx.BindF "_law_rule_right" "_law_rule_right" (top 33) ["_law_rooms_here", "_law_room"] := fun _ _ _ _ _ _ us hl => match us, hl with | [_, _], _ => rfl
theorem bf__law_due : Fx.BindF "_law_due" "_law_due" (top 34) ["_law_rooms_here"] := fun _ _ _ _ _ _ us hl => match us, hl with | [_], _ => rfl
theorem bf__law_refused : Fx.BindF "_law_refused" "_law_refused" (top 35) ["_law_thing"] := fun _ _ _ _ _ _ us hl => match us, hl with | [_], _ => rfl
theorem bf_law : Fx.BindF "law" "law" (top 36) ["_law_script"] := fun _ _ _ _ _ _ us hl => match us, hl with | [_], _ => rfl
theorem all_mk {P : Program} {w : World} {K : PySem.W.Frag} {h : Heap} {mg : Str → Option Value} {fa f_is_whole f_is_from f_is_size f_are_hears f_rows_heard f_is_rule f_fault_of f_look_rooms f_Web___init__ C_Web C_Room f_Room___init__ TT DD T1 T2 C_NoWeb f_NoWeb___init__ C_NoRoom C_NoBeat C_NoStand C_NoTable C_NoText f__law_bag f__law_take f__law_unlike f__law_rooms f__law_whole f__law_faulty f__law_hears_right f__law_size_right f__law_rule_right f__law_due f__law_refused f_law cl_law pl_law : Addr} (X : K.In h) (G : h.Ns mainGlobals mg) (hfa : mg "law" = some (.ref fa))
    {ocis_whole kVis_whole dcis_whole pmis_whole cdis_whole ctis_whole : Value} {odis_whole anis_whole : Option Addr} {slis_whole : Array (Option Value)}
    {ocis_from kVis_from dcis_from pmis_from cdis_from ctis_from : Value} {odis_from anis_from : Option Addr} {slis_from : Array (Option Value)}
    {ocis_size kVis_size dcis_size pmis_size cdis_size ctis_size : Value} {odis_size anis_size : Option Addr} {slis_size : Array (Option Value)}
    {ocare_hears kVare_hears dcare_hears pmare_hears cdare_hears ctare_hears : Value} {odare_hears anare_hears : Option Addr} {slare_hears : Array (Option Value)}
    {ocrows_heard kVrows_heard dcrows_heard pmrows_heard cdrows_heard ctrows_heard : Value} {odrows_heard anrows_heard : Option Addr} {slrows_heard : Array (Option Value)}
    {ocis_rule kVis_rule dcis_rule pmis_rule cdis_rule ctis_rule : Value} {odis_rule anis_rule : Option Addr} {slis_rule : Array (Option Value)}
    {ocfault_of kVfault_of dcfault_of pmfault_of cdfault_of ctfault_of : Value} {odfault_of anfault_of : Option Addr} {slfault_of : Array (Option Value)}
    {oclook_rooms kVlook_rooms dclook_rooms pmlook_rooms cdlook_rooms ctlook_rooms : Value} {odlook_rooms anlook_rooms : Option Addr} {sllook_rooms : Array (Option Value)}
    {ocWeb___init__ kVWeb___init__ dcWeb___init__ pmWeb___init__ cdWeb___init__ ctWeb___init__ : Value} {odWeb___init__ anWeb___init__ : Option Addr} {slWeb___init__ : Array (Option Value)}
    {ocI dcI pmI cdI ctI ocT : Value} {odI anI odT odA odB : Option Addr} {slI slT slA slB : Array (Option Value)} {nT nA nB : Nat} {tk2 tk0 tkB : Tok}
    {ddNoWeb : Option Addr} {cxNoWeb : ClassData} {sxNoWeb : Array (Option Value)}
    {ocNoWeb___init__ kVNoWeb___init__ dcNoWeb___init__ pmNoWeb___init__ cdNoWeb___init__ ctNoWeb___init__ : Value} {odNoWeb___init__ anNoWeb___init__ : Option Addr} {slNoWeb___init__ : Array (Option Value)}
    {tkMOST_SIZE : Tok}
    {tkMOST_HEARD : Tok}
    {tkMOST_TABLE : Tok}
    {tkMOST_ROOMS : Tok}
    {oc_law_bag kV_law_bag dc_law_bag pm_law_bag cd_law_bag ct_law_bag : Value} {od_law_bag an_law_bag : Option Addr} {sl_law_bag : Array (Option Value)}
    {oc_law_take kV_law_take dc_law_take pm_law_take cd_law_take ct_law_take : Value} {od_law_take an_law_take : Option Addr} {sl_law_take : Array (Option Value)}
    {oc_law_unlike kV_law_unlike dc_law_unlike pm_law_unlike cd_law_unlike ct_law_unlike : Value} {od_law_unlike an_law_unlike : Option Addr} {sl_law_unlike : Array (Option Value)}
    {oc_law_rooms kV_law_rooms dc_law_rooms pm_law_rooms cd_law_rooms ct_law_rooms : Value} {od_law_rooms an_law_rooms : Option Addr} {sl_law_rooms : Array (Option Value)}
    {oc_law_whole kV_law_whole dc_law_whole pm_law_whole cd_law_whole ct_law_whole : Value} {od_law_whole an_law_whole : Option Addr} {sl_law_whole : Array (Option Value)}
    {oc_law_faulty kV_law_faulty dc_law_faulty pm_law_faulty cd_law_faulty ct_law_faulty : Value} {od_law_faulty an_law_faulty : Option Addr} {sl_law_faulty : Array (Option Value)}
    {oc_law_hears_right kV_law_hears_right dc_law_hears_right pm_law_hears_right cd_law_hears_right ct_law_hears_right : Value} {od_law_hears_right an_law_hears_right : Option Addr} {sl_law_hears_right : Array (Option Value)}
    {oc_law_size_right kV_law_size_right dc_law_size_right pm_law_size_right cd_law_size_right ct_law_size_right : Value} {od_law_size_right an_law_size_right : Option Addr} {sl_law_size_right : Array (Option Value)}
    {oc_law_rule_right kV_law_rule_right dc_law_rule_right pm_law_rule_right cd_law_rule_right ct_law_rule_right : Value} {od_law_rule_right an_law_rule_right : Option Addr} {sl_law_rule_right : Array (Option Value)}
    {oc_law_due kV_law_due dc_law_due pm_law_due cd_law_due ct_law_due : Value} {od_law_due an_law_due : Option Addr} {sl_law_due : Array (Option Value)}
    {oc_law_refused kV_law_refused dc_law_refused pm_law_refused cd_law_refused ct_law_refused : Value} {od_law_refused an_law_refused : Option Addr} {sl_law_refused : Array (Option Value)}
    {oclaw kVlaw dclaw pmlaw ctlaw : Value} {odlaw anlaw : Option Addr} {sllaw : Array (Option Value)}
    (a_is_whole : PySem.W.nsIn K mainGlobals "is_whole" = some (some (.ref f_is_whole)))
    (l_is_whole : K.lookup f_is_whole = some ⟨ocis_whole, odis_whole, .func (PySem.W.fnOf "is_whole" "is_whole" (defArgs (top 9)) (defBody (top 9)) (defScope (top 9)) .none kVis_whole dcis_whole pmis_whole anis_whole cdis_whole ctis_whole), slis_whole⟩)
    (c_is_whole : PySem.W.codeIn K cdis_whole "is_whole" = true)
    (k_is_whole : PySem.W.keepIn K (.ref f_is_whole) = true)
    (a_is_from : PySem.W.nsIn K mainGlobals "is_from" = some (some (.ref f_is_from)))
    (l_is_from : K.lookup f_is_from = some ⟨ocis_from, odis_from, .func (PySem.W.fnOf "is_from" "is_from" (defArgs (top 10)) (defBody (top 10)) (defScope (top 10)) .none kVis_from dcis_from pmis_from anis_from cdis_from ctis_from), slis_from⟩)
    (c_is_from : PySem.W.codeIn K cdis_from "is_from" = true)
    (k_is_from : PySem.W.keepIn K (.ref f_is_from) = true)
    (a_is_size : PySem.W.nsIn K mainGlobals "is_size" = some (some (.ref f_is_size)))
    (l_is_size : K.lookup f_is_size = some ⟨ocis_size, odis_size, .func (PySem.W.fnOf "is_size" "is_size" (defArgs (top 17)) (defBody (top 17)) (defScope (top 17)) .none kVis_size dcis_size pmis_size anis_size cdis_size ctis_size), slis_size⟩)
    (c_is_size : PySem.W.codeIn K cdis_size "is_size" = true)
    (k_is_size : PySem.W.keepIn K (.ref f_is_size) = true)
    (a_are_hears : PySem.W.nsIn K mainGlobals "are_hears" = some (some (.ref f_are_hears)))
    (l_are_hears : K.lookup f_are_hears = some ⟨ocare_hears, odare_hears, .func (PySem.W.fnOf "are_hears" "are_hears" (defArgs (top 18)) (defBody (top 18)) (defScope (top 18)) .none kVare_hears dcare_hears pmare_hears anare_hears cdare_hears ctare_hears), slare_hears⟩)
    (c_are_hears : PySem.W.codeIn K cdare_hears "are_hears" = true)
    (k_are_hears : PySem.W.keepIn K (.ref f_are_hears) = true)
    (a_rows_heard : PySem.W.nsIn K mainGlobals "rows_heard" = some (some (.ref f_rows_heard)))
    (l_rows_heard : K.lookup f_rows_heard = some ⟨ocrows_heard, odrows_heard, .func (PySem.W.fnOf "rows_heard" "rows_heard" (defArgs (top 19)) (defBody (top 19)) (defScope (top 19)) .none kVrows_heard dcrows_heard pmrows_heard anrows_heard cdrows_heard ctrows_heard), slrows_heard⟩)
    (c_rows_heard : PySem.W.codeIn K cdrows_heard "rows_heard" = true)
    (k_rows_heard : PySem.W.keepIn K (.ref f_rows_heard) = true)
    (a_is_rule : PySem.W.nsIn K mainGlobals "is_rule" = some (some (.ref f_is_rule)))
    (l_is_rule : K.lookup f_is_rule = some ⟨ocis_rule, odis_rule, .func (PySem.W.fnOf "is_rule" "is_rule" (defArgs (top 20)) (defBody (top 20)) (defScope (top 20)) .none kVis_rule dcis_rule pmis_rule anis_rule cdis_rule ctis_rule), slis_rule⟩)
    (c_is_rule : PySem.W.codeIn K cdis_rule "is_rule" = true)
    (k_is_rule : PySem.W.keepIn K (.ref f_is_rule) = true)
    (a_fault_of : PySem.W.nsIn K mainGlobals "fault_of" = some (some (.ref f_fault_of)))
    (l_fault_of : K.lookup f_fault_of = some ⟨ocfault_of, odfault_of, .func (PySem.W.fnOf "fault_of" "fault_of" (defArgs (top 21)) (defBody (top 21)) (defScope (top 21)) .none kVfault_of dcfault_of pmfault_of anfault_of cdfault_of ctfault_of), slfault_of⟩)
    (c_fault_of : PySem.W.codeIn K cdfault_of "fault_of" = true)
    (k_fault_of : PySem.W.keepIn K (.ref f_fault_of) = true)
    (a_look_rooms : PySem.W.nsIn K mainGlobals "look_rooms" = some (some (.ref f_look_rooms)))
    (l_look_rooms : K.lookup f_look_rooms = some ⟨oclook_rooms, odlook_rooms, .func (PySem.W.fnOf "look_rooms" "look_rooms" (defArgs (top 22)) (defBody (top 22)) (defScope (top 22)) .none kVlook_rooms dclook_rooms pmlook_rooms anlook_rooms cdlook_rooms ctlook_rooms), sllook_rooms⟩)
    (c_look_rooms : PySem.W.codeIn K cdlook_rooms "look_rooms" = true)
    (k_look_rooms : PySem.W.keepIn K (.ref f_look_rooms) = true)
    (aC_Web : PySem.W.nsIn K mainGlobals "Web" = some (some (.ref C_Web)))
    (og : PySem.W.specialIn K (.builtin "object.__class__") "__get__" = some (some (.builtin "getset_descriptor.__get__")))
    (ot : PySem.W.takesIn K (.builtin "object.__class__") = some true)
    (pg_Web : PySem.W.plainGet K C_Web Str.empty = true)
    (hd_Web : PySem.W.hasDictIn K C_Web = true)
    (ty_Web : PySem.W.typeIn K (.ref C_Web) = some (.type "type"))
    (po_Web : PySem.W.plainOver K C_Web = true)
    (sa_Web : PySem.W.findIn K (.ref C_Web) "__setattr__" = some (some (.builtin "object.__setattr__")))
    (e1_Web : PySem.W.findIn K (.ref C_Web) "__class__" = some (some (.builtin "object.__class__")))
    (e4_Web : PySem.W.mroIn K C_Web (.type "object") = some true)
    (mk_Web : PySem.W.makesIn K C_Web = true)
    (kc_Web : PySem.W.keepIn K (.ref C_Web) = true)
    (a_Web___init__ : PySem.W.findIn K (.ref C_Web) "__init__" = some (some (.ref f_Web___init__)))
    (i_Web___init__ : PySem.W.isFn K (.ref f_Web___init__) = true)
    (l_Web___init__ : K.lookup f_Web___init__ = some ⟨ocWeb___init__, odWeb___init__, .func (PySem.W.fnOf "__init__" "Web.__init__" (defArgs (inClass (top 23) 0)) (defBody (inClass (top 23) 0)) (defScope (inClass (top 23) 0)) .none kVWeb___init__ dcWeb___init__ pmWeb___init__ anWeb___init__ cdWeb___init__ ctWeb___init__), slWeb___init__⟩)
    (c_Web___init__ : PySem.W.codeIn K cdWeb___init__ "Web.__init__" = true)
    (k_Web___init__ : PySem.W.keepIn K (.ref f_Web___init__) = true)
    (aC_Room : PySem.W.nsIn K mainGlobals "Room" = some (some (.ref C_Room)))
    (pg_Room : PySem.W.plainGet K C_Room Str.empty = true)
    (hd_Room : PySem.W.hasDictIn K C_Room = true)
    (ty_Room : PySem.W.typeIn K (.ref C_Room) = some (.type "type"))
    (po_Room : PySem.W.plainOver K C_Room = true)
    (sa_Room : PySem.W.findIn K (.ref C_Room) "__setattr__" = some (some (.builtin "object.__setattr__")))
    (e1_Room : PySem.W.findIn K (.ref C_Room) "__class__" = some (some (.builtin "object.__class__")))
    (e4_Room : PySem.W.mroIn K C_Room (.type "object") = some true)
    (mk_Room : PySem.W.makesIn K C_Room = true)
    (kc_Room : PySem.W.keepIn K (.ref C_Room) = true)
    (a_Room___init__ : PySem.W.findIn K (.ref C_Room) "__init__" = some (some (.ref f_Room___init__)))
    (i_Room___init__ : PySem.W.isFn K (.ref f_Room___init__) = true)
    (l_Room___init__ : K.lookup f_Room___init__ = some ⟨ocI, odI, .func (PySem.W.fnOf "__init__" "Room.__init__" (defArgs (inClass (top 11) 0)) (defBody (inClass (top 11) 0)) (defScope (inClass (top 11) 0)) (.ref TT) (.ref DD) dcI pmI anI cdI ctI), slI⟩)
    (c_Room___init__ : PySem.W.codeIn K cdI "Room.__init__" = true)
    (k_Room___init__ : PySem.W.keepIn K (.ref f_Room___init__) = true)
    (lT : K.lookup TT = some ⟨ocT, odT, .seq (List.toArray [.ref T1]) nT, slT⟩)
    (lA : K.lookup T1 = some ⟨.type "tuple", odA, .seq (List.toArray []) nA, slA⟩)
    (d1 : PySem.W.nsIn K DD "size" = some (some (.int 2 tk2)))
    (d2 : PySem.W.nsIn K DD "first" = some (some (.int 0 tk0)))
    (d3 : PySem.W.nsIn K DD "rule" = some (some (.ref T2)))
    (lB : K.lookup T2 = some ⟨.type "tuple", odB, .seq (List.toArray [.int 0 tkB]) nB, slB⟩)
    (no_Room_hears : PySem.W.findIn K (.ref C_Room) "hears" = some none)
    (no_Room_size : PySem.W.findIn K (.ref C_Room) "size" = some none)
    (no_Room_first : PySem.W.findIn K (.ref C_Room) "first" = some none)
    (no_Room_rule : PySem.W.findIn K (.ref C_Room) "rule" = some none)
    (no_Web_kept : PySem.W.findIn K (.ref C_Web) "kept" = some none)
    (aC_NoWeb : PySem.W.nsIn K mainGlobals "NoWeb" = some (some (.ref C_NoWeb)))
    (hd_NoWeb : PySem.W.hasDictIn K C_NoWeb = true)
    (ty_NoWeb : PySem.W.typeIn K (.ref C_NoWeb) = some (.type "type"))
    (ex_NoWeb : PySem.W.subIn K (.ref C_NoWeb) (.type "BaseException") = some true)
    (sa_NoWeb : PySem.W.findIn K (.ref C_NoWeb) "__setattr__" = some (some (.builtin "object.__setattr__")))
    (kc_NoWeb : PySem.W.keepIn K (.ref C_NoWeb) = true)
    (lx_NoWeb : K.lookup C_NoWeb = some ⟨.type "type", ddNoWeb, .cls cxNoWeb, sxNoWeb⟩)
    (qx_NoWeb : Fx.initB C_NoWeb cxNoWeb sxNoWeb [.type "ValueError", .type "Exception", .type "BaseException", .type "object"] "ValueError.__new__" = true)
    (ox_NoWeb : Fx.overB C_NoWeb cxNoWeb [.type "ValueError", .type "Exception", .type "BaseException", .type "object"] = true)
    (a_NoWeb___init__ : PySem.W.findIn K (.ref C_NoWeb) "__init__" = some (some (.ref f_NoWeb___init__)))
    (t_NoWeb___init__ : PySem.W.typeIn K (.ref f_NoWeb___init__) = some (.type "function"))
    (l_NoWeb___init__ : K.lookup f_NoWeb___init__ = some ⟨ocNoWeb___init__, odNoWeb___init__, .func (PySem.W.fnOf "__init__" "NoWeb.__init__" (defArgs (inClass (top 2) 0)) (defBody (inClass (top 2) 0)) (defScope (inClass (top 2) 0)) .none kVNoWeb___init__ dcNoWeb___init__ pmNoWeb___init__ anNoWeb___init__ cdNoWeb___init__ ctNoWeb___init__), slNoWeb___init__⟩)
    (c_NoWeb___init__ : PySem.W.codeIn K cdNoWeb___init__ "NoWeb.__init__" = true)
    (k_NoWeb___init__ : PySem.W.keepIn K (.ref f_NoWeb___init__) = true)
    (no_NoWeb_at : PySem.W.findIn K (.ref C_NoWeb) "at" = some none)
    (no_NoWeb_what : PySem.W.findIn K (.ref C_NoWeb) "what" = some none)
    (ga_NoWeb : PySem.W.findIn K (.ref C_NoWeb) "__getattribute__" = some (some (.builtin "BaseException.__getattribute__")))
    (gg_NoWeb : PySem.W.findIn K (.ref C_NoWeb) "__getattr__" = some none)
    (e1_NoWeb : PySem.W.findIn K (.ref C_NoWeb) "__class__" = some (some (.builtin "object.__class__")))
    (e4_NoWeb : PySem.W.mroIn K C_NoWeb (.type "object") = some true)
    (ss_NoWeb : PySem.W.subIn K (.ref C_NoWeb) (.ref C_NoWeb) = some true)
    (aC_NoRoom : PySem.W.nsIn K mainGlobals "NoRoom" = some (some (.ref C_NoRoom)))
    (hd_NoRoom : PySem.W.hasDictIn K C_NoRoom = true)
    (ty_NoRoom : PySem.W.typeIn K (.ref C_NoRoom) = some (.type "type"))
    (aC_NoBeat : PySem.W.nsIn K mainGlobals "NoBeat" = some (some (.ref C_NoBeat)))
    (hd_NoBeat : PySem.W.hasDictIn K C_NoBeat = true)
    (ty_NoBeat : PySem.W.typeIn K (.ref C_NoBeat) = some (.type "type"))
    (aC_NoStand : PySem.W.nsIn K mainGlobals "NoStand" = some (some (.ref C_NoStand)))
    (hd_NoStand : PySem.W.hasDictIn K C_NoStand = true)
    (ty_NoStand : PySem.W.typeIn K (.ref C_NoStand) = some (.type "type"))
    (aC_NoTable : PySem.W.nsIn K mainGlobals "NoTable" = some (some (.ref C_NoTable)))
    (hd_NoTable : PySem.W.hasDictIn K C_NoTable = true)
    (ty_NoTable : PySem.W.typeIn K (.ref C_NoTable) = some (.type "type"))
    (aC_NoText : PySem.W.nsIn K mainGlobals "NoText" = some (some (.ref C_NoText)))
    (hd_NoText : PySem.W.hasDictIn K C_NoText = true)
    (ty_NoText : PySem.W.typeIn K (.ref C_NoText) = some (.type "type"))
    (skt_NoWeb_ValueError : PySem.W.subIn K (.ref C_NoWeb) (.type "ValueError") = some true)
    (nkt_NoWeb_ValueError : (((.ref C_NoWeb) : Value) == Value.type "ValueError") = false)
    (skt_NoWeb_NoRoom : PySem.W.subIn K (.ref C_NoWeb) (.ref C_NoRoom) = some false)
    (nkt_NoWeb_NoRoom : (((.ref C_NoWeb) : Value) == Value.ref C_NoRoom) = false)
    (skt_NoWeb_NoBeat : PySem.W.subIn K (.ref C_NoWeb) (.ref C_NoBeat) = some false)
    (nkt_NoWeb_NoBeat : (((.ref C_NoWeb) : Value) == Value.ref C_NoBeat) = false)
    (skt_NoWeb_NoStand : PySem.W.subIn K (.ref C_NoWeb) (.ref C_NoStand) = some false)
    (nkt_NoWeb_NoStand : (((.ref C_NoWeb) : Value) == Value.ref C_NoStand) = false)
    (skt_NoWeb_NoTable : PySem.W.subIn K (.ref C_NoWeb) (.ref C_NoTable) = some false)
    (nkt_NoWeb_NoTable : (((.ref C_NoWeb) : Value) == Value.ref C_NoTable) = false)
    (skt_NoWeb_NoText : PySem.W.subIn K (.ref C_NoWeb) (.ref C_NoText) = some false)
    (nkt_NoWeb_NoText : (((.ref C_NoWeb) : Value) == Value.ref C_NoText) = false)
    (skt_list_Room : PySem.W.subIn K (.type "list") (.ref C_Room) = some false)
    (nkt_list_Room : (((.type "list") : Value) == Value.ref C_Room) = false)
    (skt_NoneType_Room : PySem.W.subIn K (.type "NoneType") (.ref C_Room) = some false)
    (nkt_NoneType_Room : (((.type "NoneType") : Value) == Value.ref C_Room) = false)
    (skt_Room_tuple : PySem.W.subIn K (.ref C_Room) (.type "tuple") = some false)
    (nkt_Room_tuple : (((.ref C_Room) : Value) == Value.type "tuple") = false)
    (ac_MOST_SIZE : PySem.W.nsIn K mainGlobals "MOST_SIZE" = some (some (.int 60 tkMOST_SIZE)))
    (ac_MOST_HEARD : PySem.W.nsIn K mainGlobals "MOST_HEARD" = some (some (.int 3 tkMOST_HEARD)))
    (ac_MOST_TABLE : PySem.W.nsIn K mainGlobals "MOST_TABLE" = some (some (.int 2000 tkMOST_TABLE)))
    (ac_MOST_ROOMS : PySem.W.nsIn K mainGlobals "MOST_ROOMS" = some (some (.int 12 tkMOST_ROOMS)))
    (a__law_bag : PySem.W.nsIn K mainGlobals "_law_bag" = some (some (.ref f__law_bag)))
    (l__law_bag : K.lookup f__law_bag = some ⟨oc_law_bag, od_law_bag, .func (PySem.W.fnOf "_law_bag" "_law_bag" (defArgs (top 25)) (defBody (top 25)) (defScope (top 25)) .none kV_law_bag dc_law_bag pm_law_bag an_law_bag cd_law_bag ct_law_bag), sl_law_bag⟩)
    (c__law_bag : PySem.W.codeIn K cd_law_bag "_law_bag" = true)
    (k__law_bag : PySem.W.keepIn K (.ref f__law_bag) = true)
    (a__law_take : PySem.W.nsIn K mainGlobals "_law_take" = some (some (.ref f__law_take)))
    (l__law_take : K.lookup f__law_take = some ⟨oc_law_take, od_law_take, .func (PySem.W.fnOf "_law_take" "_law_take" (defArgs (top 26)) (defBody (top 26)) (defScope (top 26)) .none kV_law_take dc_law_take pm_law_take an_law_take cd_law_take ct_law_take), sl_law_take⟩)
    (c__law_take : PySem.W.codeIn K cd_law_take "_law_take" = true)
    (k__law_take : PySem.W.keepIn K (.ref f__law_take) = true)
    (a__law_unlike : PySem.W.nsIn K mainGlobals "_law_unlike" = some (some (.ref f__law_unlike)))
    (l__law_unlike : K.lookup f__law_unlike = some ⟨oc_law_unlike, od_law_unlike, .func (PySem.W.fnOf "_law_unlike" "_law_unlike" (defArgs (top 27)) (defBody (top 27)) (defScope (top 27)) .none kV_law_unlike dc_law_unlike pm_law_unlike an_law_unlike cd_law_unlike ct_law_unlike), sl_law_unlike⟩)
    (c__law_unlike : PySem.W.codeIn K cd_law_unlike "_law_unlike" = true)
    (k__law_unlike : PySem.W.keepIn K (.ref f__law_unlike) = true)
    (a__law_rooms : PySem.W.nsIn K mainGlobals "_law_rooms" = some (some (.ref f__law_rooms)))
    (l__law_rooms : K.lookup f__law_rooms = some ⟨oc_law_rooms, od_law_rooms, .func (PySem.W.fnOf "_law_rooms" "_law_rooms" (defArgs (top 28)) (defBody (top 28)) (defScope (top 28)) .none kV_law_rooms dc_law_rooms pm_law_rooms an_law_rooms cd_law_rooms ct_law_rooms), sl_law_rooms⟩)
    (c__law_rooms : PySem.W.codeIn K cd_law_rooms "_law_rooms" = true)
    (k__law_rooms : PySem.W.keepIn K (.ref f__law_rooms) = true)
    (a__law_whole : PySem.W.nsIn K mainGlobals "_law_whole" = some (some (.ref f__law_whole)))
    (l__law_whole : K.lookup f__law_whole = some ⟨oc_law_whole, od_law_whole, .func (PySem.W.fnOf "_law_whole" "_law_whole" (defArgs (top 29)) (defBody (top 29)) (defScope (top 29)) .none kV_law_whole dc_law_whole pm_law_whole an_law_whole cd_law_whole ct_law_whole), sl_law_whole⟩)
    (c__law_whole : PySem.W.codeIn K cd_law_whole "_law_whole" = true)
    (k__law_whole : PySem.W.keepIn K (.ref f__law_whole) = true)
    (a__law_faulty : PySem.W.nsIn K mainGlobals "_law_faulty" = some (some (.ref f__law_faulty)))
    (l__law_faulty : K.lookup f__law_faulty = some ⟨oc_law_faulty, od_law_faulty, .func (PySem.W.fnOf "_law_faulty" "_law_faulty" (defArgs (top 30)) (defBody (top 30)) (defScope (top 30)) .none kV_law_faulty dc_law_faulty pm_law_faulty an_law_faulty cd_law_faulty ct_law_faulty), sl_law_faulty⟩)
    (c__law_faulty : PySem.W.codeIn K cd_law_faulty "_law_faulty" = true)
    (k__law_faulty : PySem.W.keepIn K (.ref f__law_faulty) = true)
    (a__law_hears_right : PySem.W.nsIn K mainGlobals "_law_hears_right" = some (some (.ref f__law_hears_right)))
    (l__law_hears_right : K.lookup f__law_hears_right = some ⟨oc_law_hears_right, od_law_hears_right, .func (PySem.W.fnOf "_law_hears_right" "_law_hears_right" (defArgs (top 31)) (defBody (top 31)) (defScope (top 31)) .none kV_law_hears_right dc_law_hears_right pm_law_hears_right an_law_hears_right cd_law_hears_right ct_law_hears_right), sl_law_hears_right⟩)
    (c__law_hears_right : PySem.W.codeIn K cd_law_hears_right "_law_hears_right" = true)
    (k__law_hears_right : PySem.W.keepIn K (.ref f__law_hears_right) = true)
    (a__law_size_right : PySem.W.nsIn K mainGlobals "_law_size_right" = some (some (.ref f__law_size_right)))
    (l__law_size_right : K.lookup f__law_size_right = some ⟨oc_law_size_right, od_law_size_right, .func (PySem.W.fnOf "_law_size_right" "_law_size_right" (defArgs (top 32)) (defBody (top 32)) (defScope (top 32)) .none kV_law_size_right dc_law_size_right pm_law_size_right an_law_size_right cd_law_size_right ct_law_size_right), sl_law_size_right⟩)
    (c__law_size_right : PySem.W.codeIn K cd_law_size_right "_law_size_right" = true)
    (k__law_size_right : PySem.W.keepIn K (.ref f__law_size_right) = true)
    (a__law_rule_right : PySem.W.nsIn K mainGlobals "_law_rule_right" = some (some (.ref f__law_rule_right)))
    (l__law_rule_right : K.lookup f__law_rule_right = some ⟨oc_law_rule_right, od_law_rule_right, .func (PySem.W.fnOf "_law_rule_right" "_law_rule_right" (defArgs (top 33)) (defBody (top 33)) (defScope (top 33)) .none kV_law_rule_right dc_law_rule_right pm_law_rule_right an_law_rule_right cd_law_rule_right ct_law_rule_right), sl_law_rule_right⟩)
    (c__law_rule_right : PySem.W.codeIn K cd_law_rule_right "_law_rule_right" = true)
    (k__law_rule_right : PySem.W.keepIn K (.ref f__law_rule_right) = true)
    (a__law_due : PySem.W.nsIn K mainGlobals "_law_due" = some (some (.ref f__law_due)))
    (l__law_due : K.lookup f__law_due = some ⟨oc_law_due, od_law_due, .func (PySem.W.fnOf "_law_due" "_law_due" (defArgs (top 34)) (defBody (top 34)) (defScope (top 34)) .none kV_law_due dc_law_due pm_law_due an_law_due cd_law_due ct_law_due), sl_law_due⟩)
    (c__law_due : PySem.W.codeIn K cd_law_due "_law_due" = true)
    (k__law_due : PySem.W.keepIn K (.ref f__law_due) = true)
    (a__law_refused : PySem.W.nsIn K mainGlobals "_law_refused" = some (some (.ref f__law_refused)))
    (l__law_refused : K.lookup f__law_refused = some ⟨oc_law_refused, od_law_refused, .func (PySem.W.fnOf "_law_refused" "_law_refused" (defArgs (top 35)) (defBody (top 35)) (defScope (top 35)) .none kV_law_refused dc_law_refused pm_law_refused an_law_refused cd_law_refused ct_law_refused), sl_law_refused⟩)
    (c__law_refused : PySem.W.codeIn K cd_law_refused "_law_refused" = true)
    (k__law_refused : PySem.W.keepIn K (.ref f__law_refused) = true)
    (a_law : PySem.W.nsIn K mainGlobals "law" = some (some (.ref f_law)))
    (l_law : K.lookup f_law = some ⟨oclaw, odlaw, .func (PySem.W.fnOf "law" "law" (defArgs (top 36)) (defBody (top 36)) (defScope (top 36)) .none kVlaw dclaw pmlaw anlaw (.ref cl_law) ctlaw), sllaw⟩)
    (c_law : PySem.W.codeIn K (.ref cl_law) "law" = true)
    (k_law : PySem.W.keepIn K (.ref f_law) = true)
    (z_len : PySem.W.nsIn K mainGlobals "len" = some none)
    (z_abs : PySem.W.nsIn K mainGlobals "abs" = some none)
    (z_isinstance : PySem.W.nsIn K mainGlobals "isinstance" = some none)
    (z_range : PySem.W.nsIn K mainGlobals "range" = some none)
    (z_min : PySem.W.nsIn K mainGlobals "min" = some none)
    (z_max : PySem.W.nsIn K mainGlobals "max" = some none)
    (z_list : PySem.W.nsIn K mainGlobals "list" = some none)
    (z_tuple : PySem.W.nsIn K mainGlobals "tuple" = some none)
    (z_str : PySem.W.nsIn K mainGlobals "str" = some none)
    (z_int : PySem.W.nsIn K mainGlobals "int" = some none)
    (z_bool : PySem.W.nsIn K mainGlobals "bool" = some none)
    (z_repr : PySem.W.nsIn K mainGlobals "repr" = some none)
    (z_set : PySem.W.nsIn K mainGlobals "set" = some none)
    (z_all : PySem.W.nsIn K mainGlobals "all" = some none)
    (z_sorted : PySem.W.nsIn K mainGlobals "sorted" = some none)
    (z_enumerate : PySem.W.nsIn K mainGlobals "enumerate" = some none)
    (z_zip : PySem.W.nsIn K mainGlobals "zip" = some none)
    (z_dict : PySem.W.nsIn K mainGlobals "dict" = some none)
    (z_ValueError : PySem.W.nsIn K mainGlobals "ValueError" = some none)
    (z_TypeError : PySem.W.nsIn K mainGlobals "TypeError" = some none)
    (z_IndexError : PySem.W.nsIn K mainGlobals "IndexError" = some none)
    (z_any : PySem.W.nsIn K mainGlobals "any" = some none)
    (z_sum : PySem.W.nsIn K mainGlobals "sum" = some none)
    (z_reversed : PySem.W.nsIn K mainGlobals "reversed" = some none)
    (z_KeyError : PySem.W.nsIn K mainGlobals "KeyError" = some none)
    (z_LookupError : PySem.W.nsIn K mainGlobals "LookupError" = some none)
    (z_ArithmeticError : PySem.W.nsIn K mainGlobals "ArithmeticError" = some none)
    (z_OverflowError : PySem.W.nsIn K mainGlobals "OverflowError" = some none)
    (z_RuntimeError : PySem.W.nsIn K mainGlobals "RuntimeError" = some none)
    (z_ZeroDivisionError : PySem.W.nsIn K mainGlobals "ZeroDivisionError" = some none)
    (z_StopIteration : PySem.W.nsIn K mainGlobals "StopIteration" = some none)
    (base : Heap) (hbase : K.In base) (hbg : base.Ns mainGlobals mg)
    (L_law : LamAt base mg cl_law pl_law "law.<locals>.<lambda>")
    : FnAtG P w K mg base CX0 11 "law" ["_law_script"] aLaw := by
  have D_is_whole : DefAt K mg "is_whole" (top 9) ["thing"] [] := Fx.defat_mk X G a_is_whole l_is_whole c_is_whole k_is_whole bf_is_whole (fun e he => nomatch he)
  have F_is_whole : Fun K "is_whole" "is_whole" (top 9) f_is_whole _ := fun_mk (st := (top 9)) l_is_whole c_is_whole k_is_whole
  have D_is_from : DefAt K mg "is_from" (top 10) ["thing", "least", "most"] [] := Fx.defat_mk X G a_is_from l_is_from c_is_from k_is_from bf_is_from (fun e he => nomatch he)
  have F_is_from : Fun K "is_from" "is_from" (top 10) f_is_from _ := fun_mk (st := (top 10)) l_is_from c_is_from k_is_from
  have D_is_size : DefAt K mg "is_size" (top 17) ["thing"] [] := Fx.defat_mk X G a_is_size l_is_size c_is_size k_is_size bf_is_size (fun e he => nomatch he)
  have F_is_size : Fun K "is_size" "is_size" (top 17) f_is_size _ := fun_mk (st := (top 17)) l_is_size c_is_size k_is_size
  have D_are_hears : DefAt K mg "are_hears" (top 18) ["thing", "many"] [] := Fx.defat_mk X G a_are_hears l_are_hears c_are_hears k_are_hears bf_are_hears (fun e he => nomatch he)
  have F_are_hears : Fun K "are_hears" "are_hears" (top 18) f_are_hears _ := fun_mk (st := (top 18)) l_are_hears c_are_hears k_are_hears
  have D_rows_heard : DefAt K mg "rows_heard" (top 19) ["rooms", "hears"] [] := Fx.defat_mk X G a_rows_heard l_rows_heard c_rows_heard k_rows_heard bf_rows_heard (fun e he => nomatch he)
  have F_rows_heard : Fun K "rows_heard" "rows_heard" (top 19) f_rows_heard _ := fun_mk (st := (top 19)) l_rows_heard c_rows_heard k_rows_heard
  have D_is_rule : DefAt K mg "is_rule" (top 20) ["rooms", "at"] [] := Fx.defat_mk X G a_is_rule l_is_rule c_is_rule k_is_rule bf_is_rule (fun e he => nomatch he)
  have F_is_rule : Fun K "is_rule" "is_rule" (top 20) f_is_rule _ := fun_mk (st := (top 20)) l_is_rule c_is_rule k_is_rule
  have D_fault_of : DefAt K mg "fault_of" (top 21) ["rooms", "at"] [] := Fx.defat_mk X G a_fault_of l_fault_of c_fault_of k_fault_of bf_fault_of (fun e he => nomatch he)
  have F_fault_of : Fun K "fault_of" "fault_of" (top 21) f_fault_of _ := fun_mk (st := (top 21)) l_fault_of c_fault_of k_fault_of
  have D_look_rooms : DefAt K mg "look_rooms" (top 22) ["rooms"] [] := Fx.defat_mk X G a_look_rooms l_look_rooms c_look_rooms k_look_rooms bf_look_rooms (fun e he => nomatch he)
  have F_look_rooms : Fun K "look_rooms" "look_rooms" (top 22) f_look_rooms _ := fun_mk (st := (top 22)) l_look_rooms c_look_rooms k_look_rooms
  have c_Web := PySem.W.mg_of X G aC_Web
  have cl_Web : Cls K C_Web := ⟨pg_Web, hd_Web, po_Web, sa_Web⟩
  have in_Web : InsC K C_Web := ⟨cl_Web, e1_Web, og, ot, e4_Web⟩
  have D_Web___init__ : MkDef K mg C_Web "Web" "Web.__init__" (inClass (top 23) 0) ["self", "rooms"] [] := Fx.mkdef_mk X G aC_Web mk_Web kc_Web a_Web___init__ i_Web___init__ l_Web___init__ c_Web___init__ k_Web___init__ bf_Web___init__ (fun e he => nomatch he)
  have c_Room := PySem.W.mg_of X G aC_Room
  have cl_Room : Cls K C_Room := ⟨pg_Room, hd_Room, po_Room, sa_Room⟩
  have in_Room : InsC K C_Room := ⟨cl_Room, e1_Room, og, ot, e4_Room⟩
  have FIr : FI K T1 T2 f_Room___init__ _ := ⟨⟨ocI, odI, _, _, dcI, pmI, anI, cdI, ctI, slI, rfl, l_Room___init__, c_Room___init__, .inr ⟨by simp, TT, _, [.ref T1], nT, rfl, lT, rfl, .cons rfl .nil⟩, .inr ⟨DD, rfl, fun q hq => by
    simp only [List.mem_cons, List.not_mem_nil, or_false] at hq
    rcases hq with rfl | rfl | rfl
    · exact ⟨_, d1, _, rfl⟩
    · exact ⟨_, d2, _, rfl⟩
    · exact ⟨_, d3, rfl⟩⟩⟩, k_Room___init__⟩
  have R_Room : RoomM K C_Room T1 T2 f_Room___init__ _ := ⟨⟨mk_Room, a_Room___init__, i_Room___init__, kc_Room⟩, FIr, fun W => ⟨T1, [], rfl, .inr ⟨_, _, _, lA, rfl, rfl, by decide, .nil⟩, rfl⟩, fun W => ⟨T2, [.int 0], rfl, .inr ⟨_, _, _, lB, rfl, rfl, Nat.le_of_ble_eq_true rfl, .cons ⟨_, rfl⟩ .nil⟩, RDs.of_ints [0]⟩⟩
  have RC : RoomC K C_Room := ⟨cl_Room, no_Room_hears, no_Room_size, no_Room_first, no_Room_rule⟩
  have c_NoWeb := PySem.W.mg_of X G aC_NoWeb
  have gx_NoWeb : Gx.GexC K C_NoWeb := Fx.gexc_mk Fx.bx_ValueError lx_NoWeb qx_NoWeb ox_NoWeb hd_NoWeb sa_NoWeb ex_NoWeb ty_NoWeb kc_NoWeb
  have X_NoWeb : XcAt P w K mg C_NoWeb "NoWeb" ["at", "what"] := Fx.xcat_mk X G aC_NoWeb gx_NoWeb (by decide) a_NoWeb___init__ t_NoWeb___init__ (Gx.init2 (fun_mk (st := (inClass (top 2) 0)) l_NoWeb___init__ c_NoWeb___init__ k_NoWeb___init__) it_NoWeb rfl (by decide) (fun s us hu => .of_eq (bi_NoWeb _ _ _ _ _ _ us hu)) gx_NoWeb no_NoWeb_at no_NoWeb_what)
  have xk_NoWeb : Gx.ExK K C_NoWeb := Fx.exk_mk ga_NoWeb gg_NoWeb ex_NoWeb hd_NoWeb e1_NoWeb og ot e4_NoWeb
  have me_NoWeb : PySem.W.exmOne K (.ref C_NoWeb) (.ref C_NoWeb) = some true := Fx.exm_self ex_NoWeb hd_NoWeb ty_NoWeb ss_NoWeb
  have c_NoRoom := PySem.W.mg_of X G aC_NoRoom
  have c_NoBeat := PySem.W.mg_of X G aC_NoBeat
  have c_NoStand := PySem.W.mg_of X G aC_NoStand
  have c_NoTable := PySem.W.mg_of X G aC_NoTable
  have c_NoText := PySem.W.mg_of X G aC_NoText
  have kt_NoWeb_ValueError : PySem.W.kitOne K (.ref C_NoWeb) (.type "ValueError") = some true := Fx.kit_ty nkt_NoWeb_ValueError rfl skt_NoWeb_ValueError
  have kt_NoWeb_NoRoom : PySem.W.kitOne K (.ref C_NoWeb) (.ref C_NoRoom) = some false := Fx.kit_ref nkt_NoWeb_NoRoom hd_NoRoom ty_NoRoom skt_NoWeb_NoRoom
  have kt_NoWeb_NoBeat : PySem.W.kitOne K (.ref C_NoWeb) (.ref C_NoBeat) = some false := Fx.kit_ref nkt_NoWeb_NoBeat hd_NoBeat ty_NoBeat skt_NoWeb_NoBeat
  have kt_NoWeb_NoStand : PySem.W.kitOne K (.ref C_NoWeb) (.ref C_NoStand) = some false := Fx.kit_ref nkt_NoWeb_NoStand hd_NoStand ty_NoStand skt_NoWeb_NoStand
  have kt_NoWeb_NoTable : PySem.W.kitOne K (.ref C_NoWeb) (.ref C_NoTable) = some false := Fx.kit_ref nkt_NoWeb_NoTable hd_NoTable ty_NoTable skt_NoWeb_NoTable
  have kt_NoWeb_NoText : PySem.W.kitOne K (.ref C_NoWeb) (.ref C_NoText) = some false := Fx.kit_ref nkt_NoWeb_NoText hd_NoText ty_NoText skt_NoWeb_NoText
  have kt_list_Room : PySem.W.kitOne K (.type "list") (.ref C_Room) = some false := Fx.kit_ref nkt_list_Room hd_Room ty_Room skt_list_Room
  have kt_NoneType_Room : PySem.W.kitOne K (.type "NoneType") (.ref C_Room) = some false := Fx.kit_ref nkt_NoneType_Room hd_Room ty_Room skt_NoneType_Room
  have kt_Room_tuple : PySem.W.kitOne K (.ref C_Room) (.type "tuple") = some false := Fx.kit_ty nkt_Room_tuple rfl skt_Room_tuple
  have g_MOST_SIZE := PySem.W.mg_of X G ac_MOST_SIZE
  have g_MOST_HEARD := PySem.W.mg_of X G ac_MOST_HEARD
  have g_MOST_TABLE := PySem.W.mg_of X G ac_MOST_TABLE
  have g_MOST_ROOMS := PySem.W.mg_of X G ac_MOST_ROOMS
  have D__law_bag : DefAt K mg "_law_bag" (top 25) ["_law_script", "_law_at"] [] := Fx.defat_mk X G a__law_bag l__law_bag c__law_bag k__law_bag bf__law_bag (fun e he => nomatch he)
  have F__law_bag : Fun K "_law_bag" "_law_bag" (top 25) f__law_bag _ := fun_mk (st := (top 25)) l__law_bag c__law_bag k__law_bag
  have D__law_take : DefAt K mg "_law_take" (top 26) ["_law_bag_here", "_law_many"] [] := Fx.defat_mk X G a__law_take l__law_take c__law_take k__law_take bf__law_take (fun e he => nomatch he)
  have F__law_take : Fun K "_law_take" "_law_take" (top 26) f__law_take _ := fun_mk (st := (top 26)) l__law_take c__law_take k__law_take
  have D__law_unlike : DefAt K mg "_law_unlike" (top 27) ["_law_bag_here", "_law_many", "_law_count"] [] := Fx.defat_mk X G a__law_unlike l__law_unlike c__law_unlike k__law_unlike bf__law_unlike (fun e he => nomatch he)
  have F__law_unlike : Fun K "_law_unlike" "_law_unlike" (top 27) f__law_unlike _ := fun_mk (st := (top 27)) l__law_unlike c__law_unlike k__law_unlike
  have D__law_rooms : DefAt K mg "_law_rooms" (top 28) ["_law_bag_here", "_law_most", "_law_widest"] [] := Fx.defat_mk X G a__law_rooms l__law_rooms c__law_rooms k__law_rooms bf__law_rooms (fun e he => nomatch he)
  have F__law_rooms : Fun K "_law_rooms" "_law_rooms" (top 28) f__law_rooms _ := fun_mk (st := (top 28)) l__law_rooms c__law_rooms k__law_rooms
  have D__law_whole : DefAt K mg "_law_whole" (top 29) ["_law_thing"] [] := Fx.defat_mk X G a__law_whole l__law_whole c__law_whole k__law_whole bf__law_whole (fun e he => nomatch he)
  have F__law_whole : Fun K "_law_whole" "_law_whole" (top 29) f__law_whole _ := fun_mk (st := (top 29)) l__law_whole c__law_whole k__law_whole
  have D__law_faulty : DefAt K mg "_law_faulty" (top 30) ["_law_bag_here", "_law_rooms_here"] [] := Fx.defat_mk X G a__law_faulty l__law_faulty c__law_faulty k__law_faulty bf__law_faulty (fun e he => nomatch he)
  have F__law_faulty : Fun K "_law_faulty" "_law_faulty" (top 30) f__law_faulty _ := fun_mk (st := (top 30)) l__law_faulty c__law_faulty k__law_faulty
  have D__law_hears_right : DefAt K mg "_law_hears_right" (top 31) ["_law_ears", "_law_many"] [] := Fx.defat_mk X G a__law_hears_right l__law_hears_right c__law_hears_right k__law_hears_right bf__law_hears_right (fun e he => nomatch he)
  have F__law_hears_right : Fun K "_law_hears_right" "_law_hears_right" (top 31) f__law_hears_right _ := fun_mk (st := (top 31)) l__law_hears_right c__law_hears_right k__law_hears_right
  have D__law_size_right : DefAt K mg "_law_size_right" (top 32) ["_law_wide"] [] := Fx.defat_mk X G a__law_size_right l__law_size_right c__law_size_right k__law_size_right bf__law_size_right (fun e he => nomatch he)
  have F__law_size_right : Fun K "_law_size_right" "_law_size_right" (top 32) f__law_size_right _ := fun_mk (st := (top 32)) l__law_size_right c__law_size_right k__law_size_right
  have D__law_rule_right : DefAt K mg "_law_rule_right" (top 33) ["_law_rooms_here", "_law_room"] [] := Fx.defat_mk X G a__law_rule_right l__law_rule_right c__law_rule_right k__law_rule_right bf__law_rule_right (fun e he => nomatch he)
  have F__law_rule_right : Fun K "_law_rule_right" "_law_rule_right" (top 33) f__law_rule_right _ := fun_mk (st := (top 33)) l__law_rule_right c__law_rule_right k__law_rule_right
  have D__law_due : DefAt K mg "_law_due" (top 34) ["_law_rooms_here"] [] := Fx.defat_mk X G a__law_due l__law_due c__law_due k__law_due bf__law_due (fun e he => nomatch he)
  have F__law_due : Fun K "_law_due" "_law_due" (top 34) f__law_due _ := fun_mk (st := (top 34)) l__law_due c__law_due k__law_due
  have D__law_refused : DefAt K mg "_law_refused" (top 35) ["_law_thing"] [] := Fx.defat_mk X G a__law_refused l__law_refused c__law_refused k__law_refused bf__law_refused (fun e he => nomatch he)
  have F__law_refused : Fun K "_law_refused" "_law_refused" (top 35) f__law_refused _ := fun_mk (st := (top 35)) l__law_refused c__law_refused k__law_refused
  have D_law : DefAtC K mg "law" (top 36) ["_law_script"] cl_law [] := Fx.defatC_mk X G a_law l_law c_law k_law bf_law (fun e he => nomatch he)
  have T : Bt mg := ⟨PySem.W.mg_none_of X G z_len, PySem.W.mg_none_of X G z_abs, PySem.W.mg_none_of X G z_isinstance, PySem.W.mg_none_of X G z_range, PySem.W.mg_none_of X G z_min, PySem.W.mg_none_of X G z_max, PySem.W.mg_none_of X G z_list, PySem.W.mg_none_of X G z_tuple, PySem.W.mg_none_of X G z_str, PySem.W.mg_none_of X G z_int, PySem.W.mg_none_of X G z_bool, PySem.W.mg_none_of X G z_repr, PySem.W.mg_none_of X G z_set, PySem.W.mg_none_of X G z_all, PySem.W.mg_none_of X G z_sorted, PySem.W.mg_none_of X G z_enumerate, PySem.W.mg_none_of X G z_zip, PySem.W.mg_none_of X G z_dict, PySem.W.mg_none_of X G z_ValueError, PySem.W.mg_none_of X G z_TypeError, PySem.W.mg_none_of X G z_IndexError, PySem.W.mg_none_of X G z_any, PySem.W.mg_none_of X G z_sum, PySem.W.mg_none_of X G z_reversed, PySem.W.mg_none_of X G z_KeyError, PySem.W.mg_none_of X G z_LookupError, PySem.W.mg_none_of X G z_ArithmeticError, PySem.W.mg_none_of X G z_OverflowError, PySem.W.mg_none_of X G z_RuntimeError, PySem.W.mg_none_of X G z_ZeroDivisionError, PySem.W.mg_none_of X G z_StopIteration⟩
  have G1 := ok_whole (P := P) (w := w) (base := base) D_is_whole T
  have G2 := ok_from D_is_from G1
  have G3 := ok_size D_is_size G2 g_MOST_SIZE
  have G4 := ok_hears D_are_hears T G2 g_MOST_HEARD
  have G5 := ok_rows D_rows_heard T RC G3
  have G6 := ok_rule D_is_rule T RC G5 G2 g_MOST_TABLE
  have G7 := ok_fault D_fault_of T RC G4 G3 G2 G6
  have G8 := ok_look D_look_rooms T in_Room c_Room X_NoWeb G7 g_MOST_ROOMS
  have WC : WebC K C_Web := ⟨cl_Web, no_Web_kept⟩
  have G9 := ok_initN D_Web___init__ WC G8
  have GT : FnAt P w K mg base CX0 1 "_law_take" ["_law_bag_here", "_law_many"] aTake := ⟨_, _, ok_take F__law_take, PySem.W.mg_of X G a__law_take, k__law_take, F__law_take.binds bf__law_take, fun _ he => nomatch he⟩
  have GB : FnAt P w K mg base CX0 1 "_law_bag" ["_law_script", "_law_at"] aBag := ⟨_, _, ok_bag F__law_bag T, PySem.W.mg_of X G a__law_bag, k__law_bag, F__law_bag.binds bf__law_bag, fun _ he => nomatch he⟩
  have H1 := ok_unlike D__law_unlike T GT
  have H2 := ok_rms D__law_rooms T GT H1
  have N : NoWebX K mg C_NoWeb C_NoRoom C_NoBeat C_NoStand C_NoTable C_NoText := ⟨c_NoWeb, c_NoRoom, c_NoBeat, c_NoStand, c_NoTable, c_NoText, xk_NoWeb, no_NoWeb_at, no_NoWeb_what, me_NoWeb, kt_NoWeb_ValueError,
    Fx.kit_cons kt_NoWeb_NoRoom (Fx.kit_cons kt_NoWeb_NoBeat (Fx.kit_cons kt_NoWeb_NoStand (Fx.kit_cons kt_NoWeb_NoTable (Fx.kit_cons kt_NoWeb_NoText Fx.kit_nil))))⟩
  have L1 := ok_lwhole (P := P) (w := w) (base := base) D__law_whole T
  have L2 := ok_lsize D__law_size_right T L1
  have L3 := ok_lhears D__law_hears_right T L1
  have L4 := ok_lrule D__law_rule_right T L1 L2
  have L5 := ok_ldue D__law_due T L1 L2 L3 L4
  have L6 := ok_faulty D__law_faulty T GT
  have L7 := ok_refused2 D__law_refused T N G9
  have KR : KindR K C_Room := ⟨kt_list_Room, kt_NoneType_Room, kt_Room_tuple⟩
  exact FnAtG.of (ok_law2 D_law T L_law RC R_Room c_Room in_Room KR GB GT H2 L6 L5 L7)
end Wd
open PySem PySem.W PyProof.Rows L2 in
set_option maxRecDepth 100000 in
set_option maxHeartbeats 0 in
theorem PySem.Challenge.cw_seenstands_k02_no_webs_holds : PySem.Challenge.rw_seenstands_k02_no_webs.Holds := by
  w_on; o_law; k_head; (case hw => w_witness2)
  k_fill
  letI : Al.TabList := ⟨[(375, 373, "law.<locals>.<lambda>")]⟩
  refine Fx.walk_ofA (l := PySem.Challenge.rw_seenstands_k02_no_webs) (k := 11) (x := "_law_script") rfl rfl ⟨rfl, by decide, by decide⟩ (fun w h Y => PySem.W.km_in_of Y) ?T ?F
  case T =>
    intro w h Y KX p hp
    have hp : p ∈ ([(375, 373, "law.<locals>.<lambda>")] : List (Addr × Addr × Str)) := hp
    simp only [List.mem_cons, List.not_mem_nil, or_false] at hp
    rcases hp with rfl
    · exact ⟨PySem.W.km_tabs_of Y 373 (by simp), by rfl, PySem.W.codeHd_of_K KX (by rfl)⟩
  case F =>
    intro w mg fa h KX G hmg base hbase hbg hTB
    refine' Wd.all_mk (cl_law := 375) (pl_law := 373) KX G hmg ?a_is_whole ?l_is_whole ?c_is_whole ?k_is_whole ?a_is_from ?l_is_from ?c_is_from ?k_is_from ?a_is_size ?l_is_size ?c_is_size ?k_is_size ?a_are_hears ?l_are_hears ?c_are_hears ?k_are_hears ?a_rows_heard ?l_rows_heard ?c_rows_heard ?k_rows_heard ?a_is_rule ?l_is_rule ?c_is_rule ?k_is_rule ?a_fault_of ?l_fault_of ?c_fault_of ?k_fault_of ?a_look_rooms ?l_look_rooms ?c_look_rooms ?k_look_rooms ?aC_Web ?og ?ot ?pg_Web ?hd_Web ?ty_Web ?po_Web ?sa_Web ?e1_Web ?e4_Web ?mk_Web ?kc_Web ?a_Web___init__ ?i_Web___init__ ?l_Web___init__ ?c_Web___init__ ?k_Web___init__ ?aC_Room ?pg_Room ?hd_Room ?ty_Room ?po_Room ?sa_Room ?e1_Room ?e4_Room ?mk_Room ?kc_Room ?a_Room___init__ ?i_Room___init__ ?l_Room___init__ ?c_Room___init__ ?k_Room___init__ ?lT ?lA ?d1 ?d2 ?d3 ?lB ?no_Room_hears ?no_Room_size ?no_Room_first ?no_Room_rule ?no_Web_kept ?aC_NoWeb ?hd_NoWeb ?ty_NoWeb ?ex_NoWeb ?sa_NoWeb ?kc_NoWeb ?lx_NoWeb ?qx_NoWeb ?ox_NoWeb ?a_NoWeb___init__ ?t_NoWeb___init__ ?l_NoWeb___init__ ?c_NoWeb___init__ ?k_NoWeb___init__ ?no_NoWeb_at ?no_NoWeb_what ?ga_NoWeb ?gg_NoWeb ?e1_NoWeb ?e4_NoWeb ?ss_NoWeb ?aC_NoRoom ?hd_NoRoom ?ty_NoRoom ?aC_NoBeat ?hd_NoBeat ?ty_NoBeat ?aC_NoStand ?hd_NoStand ?ty_NoStand ?aC_NoTable ?hd_NoTable ?ty_NoTable ?aC_NoText ?hd_NoText ?ty_NoText ?skt_NoWeb_ValueError ?nkt_NoWeb_ValueError ?skt_NoWeb_NoRoom ?nkt_NoWeb_NoRoom ?skt_NoWeb_NoBeat ?nkt_NoWeb_NoBeat ?skt_NoWeb_NoStand ?nkt_NoWeb_NoStand ?skt_NoWeb_NoTable ?nkt_NoWeb_NoTable ?skt_NoWeb_NoText ?nkt_NoWeb_NoText ?skt_list_Room ?nkt_list_Room ?skt_NoneType_Room ?nkt_NoneType_Room ?skt_Room_tuple ?nkt_Room_tuple ?ac_MOST_SIZE ?ac_MOST_HEARD ?ac_MOST_TABLE ?ac_MOST_ROOMS ?a__law_bag ?l__law_bag ?c__law_bag ?k__law_bag ?a__law_take ?l__law_take ?c__law_take ?k__law_take ?a__law_unlike ?l__law_unlike ?c__law_unlike ?k__law_unlike ?a__law_rooms ?l__law_rooms ?c__law_rooms ?k__law_rooms ?a__law_whole ?l__law_whole ?c__law_whole ?k__law_whole ?a__law_faulty ?l__law_faulty ?c__law_faulty ?k__law_faulty ?a__law_hears_right ?l__law_hears_right ?c__law_hears_right ?k__law_hears_right ?a__law_size_right ?l__law_size_right ?c__law_size_right ?k__law_size_right ?a__law_rule_right ?l__law_rule_right ?c__law_rule_right ?k__law_rule_right ?a__law_due ?l__law_due ?c__law_due ?k__law_due ?a__law_refused ?l__law_refused ?c__law_refused ?k__law_refused ?a_law ?l_law ?c_law ?k_law ?z_len ?z_abs ?z_isinstance ?z_range ?z_min ?z_max ?z_list ?z_tuple ?z_str ?z_int ?z_bool ?z_repr ?z_set ?z_all ?z_sorted ?z_enumerate ?z_zip ?z_dict ?z_ValueError ?z_TypeError ?z_IndexError ?z_any ?z_sum ?z_reversed ?z_KeyError ?z_LookupError ?z_ArithmeticError ?z_OverflowError ?z_RuntimeError ?z_ZeroDivisionError ?z_StopIteration base hbase hbg ⟨by show _ ∈ ([(375, 373, "law.<locals>.<lambda>")] : List (Addr × Addr × Str)); simp, fun p hp e => by have hp : p ∈ ([(375, 373, "law.<locals>.<lambda>")] : List (Addr × Addr × Str)) := hp; simp only [List.mem_cons, List.not_mem_nil, or_false] at hp; rcases hp with rfl <;> first | rfl | (exfalso; revert e; decide), hTB (375, 373, "law.<locals>.<lambda>") (by show _ ∈ ([(375, 373, "law.<locals>.<lambda>")] : List (Addr × Addr × Str)); simp)⟩
    (case a_is_whole => k_is)
    (case l_is_whole => k_is)
    (case c_is_whole => k_is)
    (case k_is_whole => k_is)
    (case a_is_from => k_is)
    (case l_is_from => k_is)
    (case c_is_from => k_is)
    (case k_is_from => k_is)
    (case a_is_size => k_is)
    (case l_is_size => k_is)
    (case c_is_size => k_is)
    (case k_is_size => k_is)
    (case a_are_hears => k_is)
    (case l_are_hears => k_is)
    (case c_are_hears => k_is)
    (case k_are_hears => k_is)
    (case a_rows_heard => k_is)
    (case l_rows_heard => k_is)
    (case c_rows_heard => k_is)
    (case k_rows_heard => k_is)
    (case a_is_rule => k_is)
    (case l_is_rule => k_is)
    (case c_is_rule => k_is)
    (case k_is_rule => k_is)
    (case a_fault_of => k_is)
    (case l_fault_of => k_is)
    (case c_fault_of => k_is)
    (case k_fault_of => k_is)
    (case a_look_rooms => k_is)
    (case l_look_rooms => k_is)
    (case c_look_rooms => k_is)
    (case k_look_rooms => k_is)
    (case aC_Web => k_is)
    (case og => k_is)
    (case ot => k_is)
    (case pg_Web => k_is)
    (case hd_Web => k_is)
    (case ty_Web => k_is)
    (case po_Web => k_is)
    (case sa_Web => k_is)
    (case e1_Web => k_is)
    (case e4_Web => k_is)
    (case mk_Web => k_is)
    (case kc_Web => k_is)
    (case a_Web___init__ => k_is)
    (case i_Web___init__ => k_is)
    (case l_Web___init__ => k_is)
    (case c_Web___init__ => k_is)
    (case k_Web___init__ => k_is)
    (case aC_Room => k_is)
    (case pg_Room => k_is)
    (case hd_Room => k_is)
    (case ty_Room => k_is)
    (case po_Room => k_is)
    (case sa_Room => k_is)
    (case e1_Room => k_is)
    (case e4_Room => k_is)
    (case mk_Room => k_is)
    (case kc_Room => k_is)
    (case a_Room___init__ => k_is)
    (case i_Room___init__ => k_is)
    (case l_Room___init__ => k_is)
    (case c_Room___init__ => k_is)
    (case k_Room___init__ => k_is)
    (case lT => k_is)
    (case lA => k_is)
    (case d1 => k_is)
    (case d2 => k_is)
    (case d3 => k_is)
    (case lB => k_is)
    (case no_Room_hears => k_is)
    (case no_Room_size => k_is)
    (case no_Room_first => k_is)
    (case no_Room_rule => k_is)
    (case no_Web_kept => k_is)
    (case aC_NoWeb => k_is)
    (case hd_NoWeb => k_is)
    (case ty_NoWeb => k_is)
    (case ex_NoWeb => k_is)
    (case sa_NoWeb => k_is)
    (case kc_NoWeb => k_is)
    (case lx_NoWeb => k_is)
    (case qx_NoWeb => decide +kernel)
    (case ox_NoWeb => decide +kernel)
    (case a_NoWeb___init__ => k_is)
    (case t_NoWeb___init__ => k_is)
    (case l_NoWeb___init__ => k_is)
    (case c_NoWeb___init__ => k_is)
    (case k_NoWeb___init__ => k_is)
    (case no_NoWeb_at => k_is)
    (case no_NoWeb_what => k_is)
    (case ga_NoWeb => k_is)
    (case gg_NoWeb => k_is)
    (case e1_NoWeb => k_is)
    (case e4_NoWeb => k_is)
    (case ss_NoWeb => k_is)
    (case aC_NoRoom => k_is)
    (case hd_NoRoom => k_is)
    (case ty_NoRoom => k_is)
    (case aC_NoBeat => k_is)
    (case hd_NoBeat => k_is)
    (case ty_NoBeat => k_is)
    (case aC_NoStand => k_is)
    (case hd_NoStand => k_is)
    (case ty_NoStand => k_is)
    (case aC_NoTable => k_is)
    (case hd_NoTable => k_is)
    (case ty_NoTable => k_is)
    (case aC_NoText => k_is)
    (case hd_NoText => k_is)
    (case ty_NoText => k_is)
    (case skt_NoWeb_ValueError => k_is)
    (case nkt_NoWeb_ValueError => rfl)
    (case skt_NoWeb_NoRoom => k_is)
    (case nkt_NoWeb_NoRoom => rfl)
    (case skt_NoWeb_NoBeat => k_is)
    (case nkt_NoWeb_NoBeat => rfl)
    (case skt_NoWeb_NoStand => k_is)
    (case nkt_NoWeb_NoStand => rfl)
    (case skt_NoWeb_NoTable => k_is)
    (case nkt_NoWeb_NoTable => rfl)
    (case skt_NoWeb_NoText => k_is)
    (case nkt_NoWeb_NoText => rfl)
    (case skt_list_Room => k_is)
    (case nkt_list_Room => rfl)
    (case skt_NoneType_Room => k_is)
    (case nkt_NoneType_Room => rfl)
    (case skt_Room_tuple => k_is)
    (case nkt_Room_tuple => rfl)
    (case ac_MOST_SIZE => k_is)
    (case ac_MOST_HEARD => k_is)
    (case ac_MOST_TABLE => k_is)
    (case ac_MOST_ROOMS => k_is)
    (case a__law_bag => k_is)
    (case l__law_bag => k_is)
    (case c__law_bag => k_is)
    (case k__law_bag => k_is)
    (case a__law_take => k_is)
    (case l__law_take => k_is)
    (case c__law_take => k_is)
    (case k__law_take => k_is)
    (case a__law_unlike => k_is)
    (case l__law_unlike => k_is)
    (case c__law_unlike => k_is)
    (case k__law_unlike => k_is)
    (case a__law_rooms => k_is)
    (case l__law_rooms => k_is)
    (case c__law_rooms => k_is)
    (case k__law_rooms => k_is)
    (case a__law_whole => k_is)
    (case l__law_whole => k_is)
    (case c__law_whole => k_is)
    (case k__law_whole => k_is)
    (case a__law_faulty => k_is)
    (case l__law_faulty => k_is)
    (case c__law_faulty => k_is)
    (case k__law_faulty => k_is)
    (case a__law_hears_right => k_is)
    (case l__law_hears_right => k_is)
    (case c__law_hears_right => k_is)
    (case k__law_hears_right => k_is)
    (case a__law_size_right => k_is)
    (case l__law_size_right => k_is)
    (case c__law_size_right => k_is)
    (case k__law_size_right => k_is)
    (case a__law_rule_right => k_is)
    (case l__law_rule_right => k_is)
    (case c__law_rule_right => k_is)
    (case k__law_rule_right => k_is)
    (case a__law_due => k_is)
    (case l__law_due => k_is)
    (case c__law_due => k_is)
    (case k__law_due => k_is)
    (case a__law_refused => k_is)
    (case l__law_refused => k_is)
    (case c__law_refused => k_is)
    (case k__law_refused => k_is)
    (case a_law => k_is)
    (case l_law => k_is)
    (case c_law => k_is)
    (case k_law => k_is)
    (case z_len => k_is)
    (case z_abs => k_is)
    (case z_isinstance => k_is)
    (case z_range => k_is)
    (case z_min => k_is)
    (case z_max => k_is)
    (case z_list => k_is)
    (case z_tuple => k_is)
    (case z_str => k_is)
    (case z_int => k_is)
    (case z_bool => k_is)
    (case z_repr => k_is)
    (case z_set => k_is)
    (case z_all => k_is)
    (case z_sorted => k_is)
    (case z_enumerate => k_is)
    (case z_zip => k_is)
    (case z_dict => k_is)
    (case z_ValueError => k_is)
    (case z_TypeError => k_is)
    (case z_IndexError => k_is)
    (case z_any => k_is)
    (case z_sum => k_is)
    (case z_reversed => k_is)
    (case z_KeyError => k_is)
    (case z_LookupError => k_is)
    (case z_ArithmeticError => k_is)
    (case z_OverflowError => k_is)
    (case z_RuntimeError => k_is)
    (case z_ZeroDivisionError => k_is)
    (case z_StopIteration => k_is)
