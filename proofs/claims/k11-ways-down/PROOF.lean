import PyProof.Rows.All
import Wide.All
import OpenK.AllK
import Wide.FinOn
import KE.KStateDown
import KE.KNest
import KE.KExcInit
import KE.KNestM
import HandS.Words
import HandS.Head0
import HandS.Head1
import HandS.Head2
import HandS.HeadHook1
import HandS.HeadHook2
import HandS.HeadHook4
import HandS.ForMost
import HandS.ForExc
import HandS.Defaults
import HandS.MakeKw
import HandS.MakeKwOnly
import HandS.IsInst
import HandS.Lambda
import HandS.FStr
import PyProof.InstEq
import HandS.NamedTupSort
import HandS.OwnEq
import HandS.SlotsOwn
import HandS.ExcInit
import HandS.ExcField
import HandS.ExcIs
import HandS.TryOnly
import HandS.CallSlots
import KE.KExcIs
import HandS.EndTab
import HandS.Nested
import HandS.Zip
import HandS.SetFor
import HandS.Conv
import HandS.TupAny
import HandS.TupMul
import PyProof.ReprRoads
import KE.GoesMore
import HandS.Dict
import HandS.TupLen
import HandS.SortRule
import PyProof.DictMoreH
import PyProof.DictFindH
import HandS.DictComp
import KE.KDictDisplayH
import PyProof.MinMaxWalk
import PyProof.WalkInts
import HandS.SortKw
import HandS.TryMany
import KE.KDictCopyH
import HandS.DictEq
import HandS.Style
import HandS.Steps
import KE.SortKeyHeap
import HandS.Exc
import KE.KRevSl
import HandS.TupSets
import HandS.Deep
import PyProof.EqKinds
import HandS.Strs
import HandS.Finally
import KE.KDictPairs
import PyProof.LongRange
import PyProof.ListRange
import PySem.Challenge.RW_seenstands_k11_ways_down
set_option Elab.async false
set_option linter.all false
set_option maxRecDepth 100000
set_option maxHeartbeats 4000000
namespace Wd
open PySem PySem.Spec PyProof.Rows
def top (i : Nat) : Stmt := PySem.Challenge.pw_seenstands_k11_ways_down.main.body.getD i (.Pass ⟨0, 0, 0, 0⟩)
def inClass : Stmt → Nat → Stmt
  | .ClassDef (body := b) .., i => b.getD i (.Pass ⟨0, 0, 0, 0⟩)
  | s, _ => s
end Wd
namespace Hq
open PySem PySem.Spec PyProof.Rows L2
abbrev Frag := PySem.W.Frag
abbrev Dfn := Str × Option Str
def adr : Value → Addr | .ref a => a | _ => 0
def fdOf (K : Frag) (f : Addr) : Option FuncData := match K.lookup f with | some ⟨_, _, .func fd, _⟩ => some fd | _ => none
def dvOf (K : Frag) (f : Addr) : Value := match fdOf K f with | some fd => fd.defaults | _ => .bool false
def kvOf (K : Frag) (f : Addr) : Value := match fdOf K f with | some fd => fd.kwdefaults | _ => .none
def cdOf (K : Frag) (f : Addr) : Value := match fdOf K f with | some fd => fd.code | _ => .none
structure DQ where
  at_ : Dfn
  name : Str
  qual : Str
  st : Stmt
def DQ.val (d : DQ) : He.FnW := some (d.name, d.qual, defArgs d.st, .stmts (defBody d.st), defScope d.st, mainGlobals, [], builtinsNs)
def obsL (K : Frag) : List DQ → List He.FnW | [] => [] | d :: r => He.fnW K d.at_ :: obsL K r
def valL : List DQ → List He.FnW | [] => [] | d :: r => d.val :: valL r
theorem obs_at {K : Frag} : ∀ {l : List DQ}, obsL K l = valL l → ∀ (i : Nat) {d : DQ}, l[i]? = some d → He.fnW K d.at_ = d.val
  | [], _, _, _, h => by simp at h
  | d :: r, e, 0, d', h => by
    have h1 : d = d' := by simpa using h
    subst h1
    exact (List.cons.inj e).1
  | d :: r, e, i + 1, d', h => obs_at (l := r) (List.cons.inj e).2 i (by simpa using h)
theorem def_ok {K : Frag} {d : DQ} (e : He.fnW K d.at_ = d.val) : ∃ oc od doc pm an ct osl, K.lookup (He.fAd K d.at_) = some ⟨oc, od, .func { name := d.name, qualname := d.qual, params := defArgs d.st, body := .stmts (defBody d.st), scope := defScope d.st, globals := mainGlobals, closure := [], defaults := dvOf K (He.fAd K d.at_), kwdefaults := kvOf K (He.fAd K d.at_), doc := doc, pyModule := pm, annotations := an, code := cdOf K (He.fAd K d.at_), closureTuple := ct, builtins := builtinsNs }, osl⟩ := by
  unfold He.fnW at e
  cases q : K.lookup (He.fAd K d.at_) with
  | none =>
    rw [q] at e
    cases e
  | some o =>
    obtain ⟨oc, od, dt, osl⟩ := o
    rw [q] at e
    cases dt with
    | func fd =>
      have e0 : fdOf K (He.fAd K d.at_) = some fd := by
        unfold fdOf
        rw [q]
      have e1 : dvOf K (He.fAd K d.at_) = fd.defaults := by
        unfold dvOf
        rw [e0]
      have e2 : kvOf K (He.fAd K d.at_) = fd.kwdefaults := by
        unfold kvOf
        rw [e0]
      have e3 : cdOf K (He.fAd K d.at_) = fd.code := by
        unfold cdOf
        rw [e0]
      rw [e1, e2, e3]
      obtain ⟨n1, n2, n3, n4, n5, n6, n7, n8, n9, n10, n11, n12, n13, n14, n15⟩ := fd
      have e2 : (some (n1, n2, n3, n4, n5, n6, n7, n15) : He.FnW) = some (d.name, d.qual, defArgs d.st, .stmts (defBody d.st), defScope d.st, mainGlobals, [], builtinsNs) := e
      simp only [Option.some.injEq, Prod.mk.injEq] at e2
      obtain ⟨h1, h2, h3, h4, h5, h6, h7, h8⟩ := e2
      subst h1 h2 h3 h4 h5 h6 h7 h8
      exact ⟨oc, od, n10, n11, n12, n14, osl, rfl⟩
    | _ => cases e
section
variable {K : Frag} {x qual : Str} {st : Stmt} {p : Dfn}
/-- no defaults -/
theorem def_plain (e : He.fnW K p = DQ.val ⟨p, x, qual, st⟩) (n : dvOf K (He.fAd K p) = .none) : ∃ oc od doc pm an ct osl, K.lookup (He.fAd K p) = some ⟨oc, od, .func (PySem.W.fnOf x qual (defArgs st) (defBody st) (defScope st) .none (kvOf K (He.fAd K p)) doc pm an (cdOf K (He.fAd K p)) ct), osl⟩ := by
  obtain ⟨oc, od, doc, pm, an, ct, osl, h⟩ := def_ok (d := ⟨p, x, qual, st⟩) e
  refine ⟨oc, od, doc, pm, an, ct, osl, ?_⟩
  rw [n] at h
  exact h
theorem def_any (e : He.fnW K p = DQ.val ⟨p, x, qual, st⟩) : ∃ oc od doc pm an ct osl, K.lookup (He.fAd K p) = some ⟨oc, od, .func (PySem.W.fnOf x qual (defArgs st) (defBody st) (defScope st) (dvOf K (He.fAd K p)) (kvOf K (He.fAd K p)) doc pm an (cdOf K (He.fAd K p)) ct), osl⟩ := def_ok (d := ⟨p, x, qual, st⟩) e
end
def isRef (o : Option (Option Value)) (a : Addr) : Bool := match o with | some (some (.ref b)) => Nat.beq b a | _ => false
def isFree (o : Option (Option Value)) : Bool := match o with | some none => true | _ => false
def isBlt (o : Option (Option Value)) (s : String) : Bool := match o with | some (some (.builtin t)) => decide (t = s) | _ => false
def isOB (o : Option Bool) (b : Bool) : Bool := match o with | some c => c == b | _ => false
def isTy (o : Option Value) (s : String) : Bool := match o with | some (.type t) => decide (t = s) | _ => false
def isNon (o : Value) : Bool := match o with | .none => true | _ => false
def isRefV (o : Value) : Bool := match o with | .ref _ => true | _ => false
def isNonE (o : Option (Option Value)) : Bool := match o with | some (some .none) => true | _ => false
def isIntE (o : Option (Option Value)) (i : Int) : Bool := match o with | some (some (.int j _)) => decide (j = i) | _ => false
theorem isRef_ok {o a} (h : isRef o a = true) : o = some (some (.ref a)) := by
  unfold isRef at h
  split at h
  · rw [Nat.eq_of_beq_eq_true h]
  · cases h
theorem isFree_ok {o} (h : isFree o = true) : o = some none := by
  unfold isFree at h
  split at h
  · rfl
  · cases h
theorem isBlt_ok {o s} (h : isBlt o s = true) : o = some (some (.builtin s)) := by
  unfold isBlt at h
  split at h
  · rw [of_decide_eq_true h]
  · cases h
theorem isOB_ok {o b} (h : isOB o b = true) : o = some b := by
  unfold isOB at h
  split at h
  · rw [eq_of_beq h]
  · cases h
theorem isTy_ok {o s} (h : isTy o s = true) : o = some (.type s) := by
  unfold isTy at h
  split at h
  · rw [of_decide_eq_true h]
  · cases h
theorem isNon_ok {o} (h : isNon o = true) : o = .none := by
  unfold isNon at h
  split at h
  · rfl
  · cases h
theorem isRefV_ok {o} (h : isRefV o = true) : o = .ref (adr o) := by
  unfold isRefV at h
  split at h
  · rfl
  · cases h
theorem isNonE_ok {o} (h : isNonE o = true) : o = some (some Value.none) := by
  unfold isNonE at h
  split at h
  · rfl
  · cases h
theorem isIntE_ok {o i} (h : isIntE o i = true) : ∃ t, o = some (some (.int i t)) := by
  unfold isIntE at h
  split at h
  · rename_i j t
    exact ⟨t, by rw [of_decide_eq_true h]⟩
  · cases h
def tupAt (K : Frag) (a : Addr) : Option (List Value) := match K.lookup a with
  | some ⟨.type c, _, .seq its _, _⟩ => (match decide (c = "tuple") with | true => some its.toList | false => none)
  | _ => none
theorem tupAt_ok {K : Frag} {a : Addr} {vs : List Value} (h : tupAt K a = some vs) : ∃ od n sl, K.lookup a = some ⟨.type "tuple", od, .seq vs.toArray n, sl⟩ := by
  unfold tupAt at h
  split at h
  · rename_i c od its n sl e
    split at h
    · rename_i q
      have e2 := of_decide_eq_true q
      subst e2
      cases h
      exact ⟨od, n, sl, e⟩
    · cases h
  · cases h
def t1At (K : Frag) (a : Addr) : Addr := match tupAt K a with | some (v :: _) => adr v | _ => 0
def nsA (K : Frag) (a : Addr) (x : Str) : Addr := match PySem.W.nsIn K a x with | some (some v) => adr v | _ => 0
def isTup1 (K : Frag) (a : Addr) : Bool := match tupAt K a with | some [.ref _] => true | _ => false
def isTup0 (K : Frag) (a : Addr) : Bool := match tupAt K a with | some [] => true | _ => false
def isTupI (K : Frag) (a : Addr) (i : Int) : Bool := match tupAt K a with | some [.int j _] => decide (j = i) | _ => false
theorem tup1_ok {K : Frag} {a : Addr} (h : isTup1 K a = true) : ∃ od n sl, K.lookup a = some ⟨.type "tuple", od, .seq (List.toArray [.ref (t1At K a)]) n, sl⟩ := by
  unfold isTup1 at h
  split at h
  · rename_i b e
    have e2 : t1At K a = b := by
      unfold t1At
      rw [e]
      rfl
    rw [e2]
    exact tupAt_ok e
  · cases h
theorem tup0_ok {K : Frag} {a : Addr} (h : isTup0 K a = true) : ∃ od n sl, K.lookup a = some ⟨.type "tuple", od, .seq (List.toArray []) n, sl⟩ := by
  unfold isTup0 at h
  split at h
  · rename_i e
    exact tupAt_ok e
  · cases h
theorem tupI_ok {K : Frag} {a : Addr} {i : Int} (h : isTupI K a i = true) : ∃ od n sl t, K.lookup a = some ⟨.type "tuple", od, .seq (List.toArray [.int i t]) n, sl⟩ := by
  unfold isTupI at h
  split at h
  · rename_i j t e
    obtain ⟨od, n, sl, z⟩ := tupAt_ok e
    rw [of_decide_eq_true h] at z
    exact ⟨od, n, sl, t, z⟩
  · cases h
section
variable {K : Frag} {x qual : Str} {st : Stmt} {p : Dfn}
theorem def_klam (e : He.fnW K p = DQ.val ⟨p, x, qual, st⟩) (n : dvOf K (He.fAd K p) = .none) (r : kvOf K (He.fAd K p) = .ref (adr (kvOf K (He.fAd K p)))) (r2 : cdOf K (He.fAd K p) = .ref (adr (cdOf K (He.fAd K p)))) : ∃ oc od doc pm an ct osl, K.lookup (He.fAd K p) = some ⟨oc, od, .func (PySem.W.fnOf x qual (defArgs st) (defBody st) (defScope st) .none (.ref (adr (kvOf K (He.fAd K p)))) doc pm an (.ref (adr (cdOf K (He.fAd K p)))) ct), osl⟩ := by
  rw [← r, ← r2]
  exact def_plain e n
theorem def_room (e : He.fnW K p = DQ.val ⟨p, x, qual, st⟩) (r : dvOf K (He.fAd K p) = .ref (adr (dvOf K (He.fAd K p)))) (r2 : kvOf K (He.fAd K p) = .ref (adr (kvOf K (He.fAd K p)))) : ∃ oc od doc pm an ct osl, K.lookup (He.fAd K p) = some ⟨oc, od, .func (PySem.W.fnOf x qual (defArgs st) (defBody st) (defScope st) (.ref (adr (dvOf K (He.fAd K p)))) (.ref (adr (kvOf K (He.fAd K p)))) doc pm an (cdOf K (He.fAd K p)) ct), osl⟩ := by
  rw [← r, ← r2]
  exact def_any e
end
def refsQ (o : Obj) : List Addr := match o.data with
  | .func fd => He.refV fd.code ++ (He.refV fd.defaults ++ He.refV fd.kwdefaults)
  | .dict es _ => es.toList.flatMap fun e => He.refV e.val
  | .cls cd => cd.ns :: cd.mro.flatMap He.refV
  | .seq its _ => its.toList.flatMap He.refV
  | _ => []
def bfs (g : Addr → Option Obj) : Nat → List Addr → PySem.W.BT → List Addr
  | 0, _, _ => []
  | _ + 1, [], _ => []
  | f + 1, a :: r, s => match s.get a with
    | some _ => bfs g f r s
    | none => (match g a with
      | some o => a :: bfs g f (refsQ o ++ r) (s.ins a o)
      | none => bfs g f r s)
def frK {α : Type} : Frag → (Frag → α) → α
  | [], k => k []
  | (a, o) :: r, k => HandSHeadRun.frNat a fun a => match o with | ⟨c, d, dt, sl⟩ => frK r fun r => k ((a, ⟨c, d, dt, sl⟩) :: r)
theorem frK_eq {α : Type} : ∀ (K : Frag) (k : Frag → α), frK K k = k K
  | [], k => rfl
  | (a, o) :: r, k => by
    obtain ⟨c, d, dt, sl⟩ := o
    unfold frK
    rw [HandSHeadRun.frNat_eq]
    exact frK_eq r _
def allB (fs : List (Frag → Bool)) (K : Frag) : Bool := match fs with | [] => true | f :: r => (match f K with | true => allB r K | false => false)
theorem allB_at {K : Frag} : ∀ {fs : List (Frag → Bool)}, allB fs K = true → ∀ (i : Nat) {f : Frag → Bool}, fs[i]? = some f → f K = true
  | [], _, _, _, h => by simp at h
  | f :: r, e, i, f', h => by
    unfold allB at e
    cases q : f K with
    | false =>
      rw [q] at e
      cases e
    | true =>
      rw [q] at e
      cases i with
      | zero =>
        have h1 : f = f' := by simpa using h
        rw [← h1]
        exact q
      | succ i => exact allB_at (fs := r) e i (by simpa using h)
def tabC (K : Frag) (p : Dfn) : Addr := adr (cdOf K (He.fAd K p))
def tabP (K : Frag) (p : Dfn) : Addr := He.tabOf K (tabC K p)
structure Says (ds : List DQ) (fs : List (List (Frag → Bool))) (tf : List Dfn) (h : Heap) (K : Frag) : Prop where
  d : obsL K ds = valL ds
  f : ∀ l ∈ fs, allB l K = true
  hd : ∀ p ∈ tf, PySem.W.codeHdIn K (tabC K p) (tabP K p) = true
  out : ∀ p ∈ tf, K.lookup (tabP K p) = none
  empty : ∀ p ∈ tf, h.get? (tabP K p) = some { cls := .none, data := .fields #[] }
def tabsQ (g : Addr → Option Obj) (tf : List Dfn) (K : Frag) : Bool := tf.all fun p => PySem.W.codeHdIn K (tabC K p) (tabP K p) && (match g (tabP K p) with
  | some o => He.emptyTab o
  | none => false)
abbrev AlQ : Type := List He.FnW × Bool
def look (ds : List DQ) (fs : List (List (Frag → Bool))) (tf : List Dfn) (g : Addr → Option Obj) (K : Frag) : AlQ := (obsL K ds, (fs.all fun l => allB l K) && tabsQ g tf K)
def obsQ (n : Nat) (ds : List DQ) (fs : List (List (Frag → Bool))) (tf : List Dfn) (g : Addr → Option Obj) : AlQ := frK (He.frT g (bfs g n [mainGlobals] .nil)) fun K => look ds fs tf g K
theorem says_of {n : Nat} {ds : List DQ} {fs : List (List (Frag → Bool))} {tf : List Dfn} {h : Heap} (e : obsQ n ds fs tf h.get? = (valL ds, true)) : Says ds fs tf h (He.frT h.get? (bfs h.get? n [mainGlobals] .nil)) := by
  unfold obsQ at e
  rw [frK_eq] at e
  have e1 : obsL (He.frT h.get? (bfs h.get? n [mainGlobals] .nil)) ds = valL ds := congrArg (fun z : AlQ => z.1) e
  have e2 : ((fs.all fun l => allB l (He.frT h.get? (bfs h.get? n [mainGlobals] .nil))) && tabsQ h.get? tf (He.frT h.get? (bfs h.get? n [mainGlobals] .nil))) = true := congrArg (fun z : AlQ => z.2) e
  generalize hK : He.frT h.get? (bfs h.get? n [mainGlobals] .nil) = K at e1 e2 ⊢
  obtain ⟨h1, h2⟩ := He.ba e2
  have key : ∀ p ∈ tf, PySem.W.codeHdIn K (tabC K p) (tabP K p) = true ∧ ∃ o, h.get? (tabP K p) = some o ∧ He.emptyTab o = true := fun p hp => by
    obtain ⟨h3, h4⟩ := He.ba (List.all_eq_true.mp h2 p hp)
    refine ⟨h3, ?_⟩
    cases q : h.get? (tabP K p) with
    | none =>
      rw [q] at h4
      cases h4
    | some o =>
      rw [q] at h4
      exact ⟨o, rfl, h4⟩
  exact ⟨e1, fun l hl => List.all_eq_true.mp h1 l hl, fun p hp => (key p hp).1, fun p hp => by
    obtain ⟨_, o, q, z⟩ := key p hp
    rw [← hK] at q ⊢
    exact He.frT_none q z, fun p hp => by
    obtain ⟨_, o, q, z⟩ := key p hp
    rw [q, He.emptyTab_eq z]⟩
def hook (n : Nat) (ds : List DQ) (fs : List (List (Frag → Bool))) (tf : List Dfn) : PySem.W.Hook where
  α := AlQ
  obs := fun s => obsQ n ds fs tf s.heap.get?
  val := fun _ => (valL ds, true)
  says := fun _ h => ∃ K : Frag, K.In h ∧ Says ds fs tf h K
  of := fun _ _ e => ⟨_, He.frT_in, says_of e⟩
  keeps := fun _ _ _ ⟨K, hK, c⟩ k => ⟨K, PySem.W.Frag.In.keeps hK k, ⟨c.d, c.f, c.hd, c.out, fun p hp => k _ _ (c.empty p hp)⟩⟩
theorem hook_eq {n : Nat} {ds : List DQ} {fs : List (List (Frag → Bool))} {tf : List Dfn} (s : PySem.W.SharedT) : obsQ n ds fs tf (HandSHeadRun.getT s) = (hook n ds fs tf).obs s.abs := by
  have e : HandSHeadRun.getT s = s.abs.heap.get? := funext fun a => HandSHeadRun.getT_eq s a
  show obsQ n ds fs tf (HandSHeadRun.getT s) = obsQ n ds fs tf s.abs.heap.get?
  rw [e]
section
variable {ds : List DQ} {fs : List (List (Frag → Bool))} {tf : List Dfn} {h : Heap} {K : Frag}
theorem Says.def_ (c : Says ds fs tf h K) (i : Nat) {d : DQ} (e : ds[i]? = some d) : He.fnW K d.at_ = d.val := obs_at c.d i e
end
def tabsL (K : Frag) (tf : List (Dfn × Str)) : List (Addr × Addr × Str) := tf.map fun p => (tabC K p.1, tabP K p.1, p.2)
end Hq
namespace Wd.Wh
open PySem PyProof.Rows L2
def tf : List (Hq.Dfn × Str) := [(("way", none), "way.<locals>.<lambda>")]
def ds0 : List Hq.DQ := [
  ⟨("is_whole", none), "is_whole", "is_whole", (top 4)⟩,
  ⟨("is_from", none), "is_from", "is_from", (top 5)⟩,
  ⟨("is_size", none), "is_size", "is_size", (top 12)⟩,
  ⟨("are_hears", none), "are_hears", "are_hears", (top 13)⟩,
  ⟨("rows_heard", none), "rows_heard", "rows_heard", (top 14)⟩,
  ⟨("is_rule", none), "is_rule", "is_rule", (top 15)⟩,
  ⟨("fault_of", none), "fault_of", "fault_of", (top 16)⟩,
  ⟨("look_rooms", none), "look_rooms", "look_rooms", (top 17)⟩,
  ⟨("Web", some "__init__"), "__init__", "Web.__init__", (inClass (top 18) 0)⟩,
  ⟨("Web", some "rooms"), "rooms", "Web.rooms", (inClass (top 18) 1)⟩,
  ⟨("is_known", none), "is_known", "is_known", (top 20)⟩,
  ⟨("heard_cells", none), "heard_cells", "heard_cells", (top 21)⟩,
  ⟨("way_by", none), "way_by", "way_by", (top 22)⟩,
  ⟨("way", none), "way", "way", (top 23)⟩,
  ⟨("Room", some "__init__"), "__init__", "Room.__init__", (inClass (top 6) 0)⟩,
  ⟨("NoWeb", some "__init__"), "__init__", "NoWeb.__init__", (inClass (top 2) 0)⟩,
  ⟨("_law_bag", none), "_law_bag", "_law_bag", (top 25)⟩,
  ⟨("_law_take", none), "_law_take", "_law_take", (top 26)⟩,
  ⟨("_law_unlike", none), "_law_unlike", "_law_unlike", (top 27)⟩,
  ⟨("_law_rooms", none), "_law_rooms", "_law_rooms", (top 28)⟩]
def ds1 : List Hq.DQ := [
  ⟨("_law_web", none), "_law_web", "_law_web", (top 29)⟩,
  ⟨("_law_pokes", none), "_law_pokes", "_law_pokes", (top 30)⟩,
  ⟨("_law_needs", none), "_law_needs", "_law_needs", (top 31)⟩,
  ⟨("_law_whole", none), "_law_whole", "_law_whole", (top 32)⟩,
  ⟨("_law_is_way", none), "_law_is_way", "_law_is_way", (top 33)⟩,
  ⟨("_law_long", none), "_law_long", "_law_long", (top 34)⟩,
  ⟨("law", none), "law", "law", (top 35)⟩]
def ds : List Hq.DQ := ds0 ++ ds1
def fs0 : List (Hq.Frag → Bool) := [
  fun K => Hq.isRef (PySem.W.nsIn K mainGlobals "is_whole") (He.fAd K ("is_whole", none)),
  fun K => Hq.isNon (Hq.dvOf K (He.fAd K ("is_whole", none))),
  fun K => PySem.W.codeIn K (Hq.cdOf K (He.fAd K ("is_whole", none))) "is_whole",
  fun K => PySem.W.keepIn K (.ref (He.fAd K ("is_whole", none))),
  fun K => Hq.isRef (PySem.W.nsIn K mainGlobals "is_from") (He.fAd K ("is_from", none)),
  fun K => Hq.isNon (Hq.dvOf K (He.fAd K ("is_from", none))),
  fun K => PySem.W.codeIn K (Hq.cdOf K (He.fAd K ("is_from", none))) "is_from",
  fun K => PySem.W.keepIn K (.ref (He.fAd K ("is_from", none))),
  fun K => Hq.isRef (PySem.W.nsIn K mainGlobals "is_size") (He.fAd K ("is_size", none)),
  fun K => Hq.isNon (Hq.dvOf K (He.fAd K ("is_size", none))),
  fun K => PySem.W.codeIn K (Hq.cdOf K (He.fAd K ("is_size", none))) "is_size",
  fun K => PySem.W.keepIn K (.ref (He.fAd K ("is_size", none))),
  fun K => Hq.isRef (PySem.W.nsIn K mainGlobals "are_hears") (He.fAd K ("are_hears", none)),
  fun K => Hq.isNon (Hq.dvOf K (He.fAd K ("are_hears", none))),
  fun K => PySem.W.codeIn K (Hq.cdOf K (He.fAd K ("are_hears", none))) "are_hears",
  fun K => PySem.W.keepIn K (.ref (He.fAd K ("are_hears", none))),
  fun K => Hq.isRef (PySem.W.nsIn K mainGlobals "rows_heard") (He.fAd K ("rows_heard", none)),
  fun K => Hq.isNon (Hq.dvOf K (He.fAd K ("rows_heard", none))),
  fun K => PySem.W.codeIn K (Hq.cdOf K (He.fAd K ("rows_heard", none))) "rows_heard",
  fun K => PySem.W.keepIn K (.ref (He.fAd K ("rows_heard", none))),
  fun K => Hq.isRef (PySem.W.nsIn K mainGlobals "is_rule") (He.fAd K ("is_rule", none)),
  fun K => Hq.isNon (Hq.dvOf K (He.fAd K ("is_rule", none))),
  fun K => PySem.W.codeIn K (Hq.cdOf K (He.fAd K ("is_rule", none))) "is_rule",
  fun K => PySem.W.keepIn K (.ref (He.fAd K ("is_rule", none))),
  fun K => Hq.isRef (PySem.W.nsIn K mainGlobals "fault_of") (He.fAd K ("fault_of", none)),
  fun K => Hq.isNon (Hq.dvOf K (He.fAd K ("fault_of", none))),
  fun K => PySem.W.codeIn K (Hq.cdOf K (He.fAd K ("fault_of", none))) "fault_of",
  fun K => PySem.W.keepIn K (.ref (He.fAd K ("fault_of", none))),
  fun K => Hq.isRef (PySem.W.nsIn K mainGlobals "look_rooms") (He.fAd K ("look_rooms", none)),
  fun K => Hq.isNon (Hq.dvOf K (He.fAd K ("look_rooms", none))),
  fun K => PySem.W.codeIn K (Hq.cdOf K (He.fAd K ("look_rooms", none))) "look_rooms",
  fun K => PySem.W.keepIn K (.ref (He.fAd K ("look_rooms", none))),
  fun K => Hq.isRef (PySem.W.nsIn K mainGlobals "Web") (He.ga K "Web"),
  fun K => Hq.isBlt (PySem.W.specialIn K (.builtin "object.__class__") "__get__") "getset_descriptor.__get__",
  fun K => Hq.isOB (PySem.W.takesIn K (.builtin "object.__class__")) true,
  fun K => PySem.W.plainGet K (He.ga K "Web") Str.empty,
  fun K => PySem.W.hasDictIn K (He.ga K "Web"),
  fun K => Hq.isTy (PySem.W.typeIn K (.ref (He.ga K "Web"))) "type",
  fun K => PySem.W.plainOver K (He.ga K "Web"),
  fun K => Hq.isBlt (PySem.W.findIn K (.ref (He.ga K "Web")) "__setattr__") "object.__setattr__"]
def fs1 : List (Hq.Frag → Bool) := [
  fun K => Hq.isBlt (PySem.W.findIn K (.ref (He.ga K "Web")) "__class__") "object.__class__",
  fun K => Hq.isOB (PySem.W.mroIn K (He.ga K "Web") (.type "object")) true,
  fun K => PySem.W.makesIn K (He.ga K "Web"),
  fun K => PySem.W.keepIn K (.ref (He.ga K "Web")),
  fun K => Hq.isRef (PySem.W.findIn K (.ref (He.ga K "Web")) "__init__") (He.fAd K ("Web", some "__init__")),
  fun K => PySem.W.isFn K (.ref (He.fAd K ("Web", some "__init__"))),
  fun K => Hq.isNon (Hq.dvOf K (He.fAd K ("Web", some "__init__"))),
  fun K => PySem.W.codeIn K (Hq.cdOf K (He.fAd K ("Web", some "__init__"))) "Web.__init__",
  fun K => PySem.W.keepIn K (.ref (He.fAd K ("Web", some "__init__"))),
  fun K => Hq.isRef (PySem.W.findIn K (.ref (He.ga K "Web")) "rooms") (He.fAd K ("Web", some "rooms")),
  fun K => PySem.W.isFn K (.ref (He.fAd K ("Web", some "rooms"))),
  fun K => Hq.isNon (Hq.dvOf K (He.fAd K ("Web", some "rooms"))),
  fun K => PySem.W.codeIn K (Hq.cdOf K (He.fAd K ("Web", some "rooms"))) "Web.rooms",
  fun K => PySem.W.keepIn K (.ref (He.fAd K ("Web", some "rooms"))),
  fun K => Hq.isRef (PySem.W.nsIn K mainGlobals "is_known") (He.fAd K ("is_known", none)),
  fun K => Hq.isNon (Hq.dvOf K (He.fAd K ("is_known", none))),
  fun K => PySem.W.codeIn K (Hq.cdOf K (He.fAd K ("is_known", none))) "is_known",
  fun K => PySem.W.keepIn K (.ref (He.fAd K ("is_known", none))),
  fun K => Hq.isRef (PySem.W.nsIn K mainGlobals "heard_cells") (He.fAd K ("heard_cells", none)),
  fun K => Hq.isNon (Hq.dvOf K (He.fAd K ("heard_cells", none))),
  fun K => PySem.W.codeIn K (Hq.cdOf K (He.fAd K ("heard_cells", none))) "heard_cells",
  fun K => PySem.W.keepIn K (.ref (He.fAd K ("heard_cells", none))),
  fun K => Hq.isRef (PySem.W.nsIn K mainGlobals "way_by") (He.fAd K ("way_by", none)),
  fun K => Hq.isNon (Hq.dvOf K (He.fAd K ("way_by", none))),
  fun K => PySem.W.codeIn K (Hq.cdOf K (He.fAd K ("way_by", none))) "way_by",
  fun K => PySem.W.keepIn K (.ref (He.fAd K ("way_by", none))),
  fun K => Hq.isRef (PySem.W.nsIn K mainGlobals "way") (He.fAd K ("way", none)),
  fun K => Hq.isNon (Hq.dvOf K (He.fAd K ("way", none))),
  fun K => Hq.isRefV (Hq.kvOf K (He.fAd K ("way", none))),
  fun K => Hq.isRefV (Hq.cdOf K (He.fAd K ("way", none))),
  fun K => PySem.W.codeIn K (.ref (Hq.tabC K ("way", none))) "way",
  fun K => PySem.W.keepIn K (.ref (He.fAd K ("way", none))),
  fun K => Hq.isNonE (PySem.W.nsIn K (Hq.adr (Hq.kvOf K (He.fAd K ("way", none)))) "pokes"),
  fun K => Hq.isRef (PySem.W.nsIn K mainGlobals "Room") (He.ga K "Room"),
  fun K => PySem.W.plainGet K (He.ga K "Room") Str.empty,
  fun K => PySem.W.hasDictIn K (He.ga K "Room"),
  fun K => Hq.isTy (PySem.W.typeIn K (.ref (He.ga K "Room"))) "type",
  fun K => PySem.W.plainOver K (He.ga K "Room"),
  fun K => Hq.isBlt (PySem.W.findIn K (.ref (He.ga K "Room")) "__setattr__") "object.__setattr__",
  fun K => Hq.isBlt (PySem.W.findIn K (.ref (He.ga K "Room")) "__class__") "object.__class__"]
def fs2 : List (Hq.Frag → Bool) := [
  fun K => Hq.isOB (PySem.W.mroIn K (He.ga K "Room") (.type "object")) true,
  fun K => PySem.W.makesIn K (He.ga K "Room"),
  fun K => PySem.W.keepIn K (.ref (He.ga K "Room")),
  fun K => Hq.isRef (PySem.W.findIn K (.ref (He.ga K "Room")) "__init__") (He.fAd K ("Room", some "__init__")),
  fun K => PySem.W.isFn K (.ref (He.fAd K ("Room", some "__init__"))),
  fun K => Hq.isRefV (Hq.dvOf K (He.fAd K ("Room", some "__init__"))),
  fun K => Hq.isRefV (Hq.kvOf K (He.fAd K ("Room", some "__init__"))),
  fun K => Hq.isTup1 K (Hq.adr (Hq.dvOf K (He.fAd K ("Room", some "__init__")))),
  fun K => Hq.isTup0 K (Hq.t1At K (Hq.adr (Hq.dvOf K (He.fAd K ("Room", some "__init__"))))),
  fun K => Hq.isTupI K (Hq.nsA K (Hq.adr (Hq.kvOf K (He.fAd K ("Room", some "__init__")))) "rule") 0,
  fun K => Hq.isIntE (PySem.W.nsIn K (Hq.adr (Hq.kvOf K (He.fAd K ("Room", some "__init__")))) "size") 2,
  fun K => Hq.isIntE (PySem.W.nsIn K (Hq.adr (Hq.kvOf K (He.fAd K ("Room", some "__init__")))) "first") 0,
  fun K => Hq.isRef (PySem.W.nsIn K (Hq.adr (Hq.kvOf K (He.fAd K ("Room", some "__init__")))) "rule") (Hq.nsA K (Hq.adr (Hq.kvOf K (He.fAd K ("Room", some "__init__")))) "rule"),
  fun K => PySem.W.codeIn K (Hq.cdOf K (He.fAd K ("Room", some "__init__"))) "Room.__init__",
  fun K => PySem.W.keepIn K (.ref (He.fAd K ("Room", some "__init__"))),
  fun K => Hq.isFree (PySem.W.findIn K (.ref (He.ga K "Room")) "hears"),
  fun K => Hq.isFree (PySem.W.findIn K (.ref (He.ga K "Room")) "size"),
  fun K => Hq.isFree (PySem.W.findIn K (.ref (He.ga K "Room")) "first"),
  fun K => Hq.isFree (PySem.W.findIn K (.ref (He.ga K "Room")) "rule"),
  fun K => Hq.isFree (PySem.W.findIn K (.ref (He.ga K "Web")) "kept"),
  fun K => Hq.isRef (PySem.W.nsIn K mainGlobals "NoWeb") (He.ga K "NoWeb"),
  fun K => PySem.W.hasDictIn K (He.ga K "NoWeb"),
  fun K => Hq.isTy (PySem.W.typeIn K (.ref (He.ga K "NoWeb"))) "type",
  fun K => Hq.isOB (PySem.W.subIn K (.ref (He.ga K "NoWeb")) (.type "BaseException")) true,
  fun K => Hq.isBlt (PySem.W.findIn K (.ref (He.ga K "NoWeb")) "__setattr__") "object.__setattr__",
  fun K => PySem.W.keepIn K (.ref (He.ga K "NoWeb")),
  fun K => PySem.W.excInitIn K (He.ga K "NoWeb") [.type "ValueError", .type "Exception", .type "BaseException", .type "object"] "ValueError.__new__",
  fun K => PySem.W.excOver K (He.ga K "NoWeb") [.type "ValueError", .type "Exception", .type "BaseException", .type "object"],
  fun K => Hq.isRef (PySem.W.findIn K (.ref (He.ga K "NoWeb")) "__init__") (He.fAd K ("NoWeb", some "__init__")),
  fun K => Hq.isTy (PySem.W.typeIn K (.ref (He.fAd K ("NoWeb", some "__init__")))) "function",
  fun K => Hq.isNon (Hq.dvOf K (He.fAd K ("NoWeb", some "__init__"))),
  fun K => PySem.W.codeIn K (Hq.cdOf K (He.fAd K ("NoWeb", some "__init__"))) "NoWeb.__init__",
  fun K => PySem.W.keepIn K (.ref (He.fAd K ("NoWeb", some "__init__"))),
  fun K => Hq.isFree (PySem.W.findIn K (.ref (He.ga K "NoWeb")) "at"),
  fun K => Hq.isFree (PySem.W.findIn K (.ref (He.ga K "NoWeb")) "what"),
  fun K => Hq.isIntE (PySem.W.nsIn K mainGlobals "MOST_SIZE") 60,
  fun K => Hq.isIntE (PySem.W.nsIn K mainGlobals "MOST_HEARD") 3,
  fun K => Hq.isIntE (PySem.W.nsIn K mainGlobals "MOST_TABLE") 2000,
  fun K => Hq.isIntE (PySem.W.nsIn K mainGlobals "MOST_ROOMS") 12,
  fun K => Hq.isRef (PySem.W.nsIn K mainGlobals "_law_bag") (He.fAd K ("_law_bag", none))]
def fs3 : List (Hq.Frag → Bool) := [
  fun K => Hq.isNon (Hq.dvOf K (He.fAd K ("_law_bag", none))),
  fun K => PySem.W.codeIn K (Hq.cdOf K (He.fAd K ("_law_bag", none))) "_law_bag",
  fun K => PySem.W.keepIn K (.ref (He.fAd K ("_law_bag", none))),
  fun K => Hq.isRef (PySem.W.nsIn K mainGlobals "_law_take") (He.fAd K ("_law_take", none)),
  fun K => Hq.isNon (Hq.dvOf K (He.fAd K ("_law_take", none))),
  fun K => PySem.W.codeIn K (Hq.cdOf K (He.fAd K ("_law_take", none))) "_law_take",
  fun K => PySem.W.keepIn K (.ref (He.fAd K ("_law_take", none))),
  fun K => Hq.isRef (PySem.W.nsIn K mainGlobals "_law_unlike") (He.fAd K ("_law_unlike", none)),
  fun K => Hq.isNon (Hq.dvOf K (He.fAd K ("_law_unlike", none))),
  fun K => PySem.W.codeIn K (Hq.cdOf K (He.fAd K ("_law_unlike", none))) "_law_unlike",
  fun K => PySem.W.keepIn K (.ref (He.fAd K ("_law_unlike", none))),
  fun K => Hq.isRef (PySem.W.nsIn K mainGlobals "_law_rooms") (He.fAd K ("_law_rooms", none)),
  fun K => Hq.isNon (Hq.dvOf K (He.fAd K ("_law_rooms", none))),
  fun K => PySem.W.codeIn K (Hq.cdOf K (He.fAd K ("_law_rooms", none))) "_law_rooms",
  fun K => PySem.W.keepIn K (.ref (He.fAd K ("_law_rooms", none))),
  fun K => Hq.isRef (PySem.W.nsIn K mainGlobals "_law_web") (He.fAd K ("_law_web", none)),
  fun K => Hq.isNon (Hq.dvOf K (He.fAd K ("_law_web", none))),
  fun K => PySem.W.codeIn K (Hq.cdOf K (He.fAd K ("_law_web", none))) "_law_web",
  fun K => PySem.W.keepIn K (.ref (He.fAd K ("_law_web", none))),
  fun K => Hq.isRef (PySem.W.nsIn K mainGlobals "_law_pokes") (He.fAd K ("_law_pokes", none)),
  fun K => Hq.isNon (Hq.dvOf K (He.fAd K ("_law_pokes", none))),
  fun K => PySem.W.codeIn K (Hq.cdOf K (He.fAd K ("_law_pokes", none))) "_law_pokes",
  fun K => PySem.W.keepIn K (.ref (He.fAd K ("_law_pokes", none))),
  fun K => Hq.isRef (PySem.W.nsIn K mainGlobals "_law_needs") (He.fAd K ("_law_needs", none)),
  fun K => Hq.isNon (Hq.dvOf K (He.fAd K ("_law_needs", none))),
  fun K => PySem.W.codeIn K (Hq.cdOf K (He.fAd K ("_law_needs", none))) "_law_needs",
  fun K => PySem.W.keepIn K (.ref (He.fAd K ("_law_needs", none))),
  fun K => Hq.isRef (PySem.W.nsIn K mainGlobals "_law_whole") (He.fAd K ("_law_whole", none)),
  fun K => Hq.isNon (Hq.dvOf K (He.fAd K ("_law_whole", none))),
  fun K => PySem.W.codeIn K (Hq.cdOf K (He.fAd K ("_law_whole", none))) "_law_whole",
  fun K => PySem.W.keepIn K (.ref (He.fAd K ("_law_whole", none))),
  fun K => Hq.isRef (PySem.W.nsIn K mainGlobals "_law_is_way") (He.fAd K ("_law_is_way", none)),
  fun K => Hq.isNon (Hq.dvOf K (He.fAd K ("_law_is_way", none))),
  fun K => PySem.W.codeIn K (Hq.cdOf K (He.fAd K ("_law_is_way", none))) "_law_is_way",
  fun K => PySem.W.keepIn K (.ref (He.fAd K ("_law_is_way", none))),
  fun K => Hq.isRef (PySem.W.nsIn K mainGlobals "_law_long") (He.fAd K ("_law_long", none)),
  fun K => Hq.isNon (Hq.dvOf K (He.fAd K ("_law_long", none))),
  fun K => PySem.W.codeIn K (Hq.cdOf K (He.fAd K ("_law_long", none))) "_law_long",
  fun K => PySem.W.keepIn K (.ref (He.fAd K ("_law_long", none))),
  fun K => Hq.isRef (PySem.W.nsIn K mainGlobals "law") (He.fAd K ("law", none))]
def fs4 : List (Hq.Frag → Bool) := [
  fun K => Hq.isNon (Hq.dvOf K (He.fAd K ("law", none))),
  fun K => PySem.W.codeIn K (Hq.cdOf K (He.fAd K ("law", none))) "law",
  fun K => PySem.W.keepIn K (.ref (He.fAd K ("law", none))),
  fun K => Hq.isFree (PySem.W.nsIn K mainGlobals "len"),
  fun K => Hq.isFree (PySem.W.nsIn K mainGlobals "abs"),
  fun K => Hq.isFree (PySem.W.nsIn K mainGlobals "isinstance"),
  fun K => Hq.isFree (PySem.W.nsIn K mainGlobals "range"),
  fun K => Hq.isFree (PySem.W.nsIn K mainGlobals "min"),
  fun K => Hq.isFree (PySem.W.nsIn K mainGlobals "max"),
  fun K => Hq.isFree (PySem.W.nsIn K mainGlobals "list"),
  fun K => Hq.isFree (PySem.W.nsIn K mainGlobals "tuple"),
  fun K => Hq.isFree (PySem.W.nsIn K mainGlobals "str"),
  fun K => Hq.isFree (PySem.W.nsIn K mainGlobals "int"),
  fun K => Hq.isFree (PySem.W.nsIn K mainGlobals "bool"),
  fun K => Hq.isFree (PySem.W.nsIn K mainGlobals "repr"),
  fun K => Hq.isFree (PySem.W.nsIn K mainGlobals "set"),
  fun K => Hq.isFree (PySem.W.nsIn K mainGlobals "all"),
  fun K => Hq.isFree (PySem.W.nsIn K mainGlobals "sorted"),
  fun K => Hq.isFree (PySem.W.nsIn K mainGlobals "enumerate"),
  fun K => Hq.isFree (PySem.W.nsIn K mainGlobals "zip"),
  fun K => Hq.isFree (PySem.W.nsIn K mainGlobals "dict"),
  fun K => Hq.isFree (PySem.W.nsIn K mainGlobals "ValueError"),
  fun K => Hq.isFree (PySem.W.nsIn K mainGlobals "TypeError"),
  fun K => Hq.isFree (PySem.W.nsIn K mainGlobals "IndexError"),
  fun K => Hq.isFree (PySem.W.nsIn K mainGlobals "any"),
  fun K => Hq.isFree (PySem.W.nsIn K mainGlobals "sum"),
  fun K => Hq.isFree (PySem.W.nsIn K mainGlobals "reversed"),
  fun K => Hq.isFree (PySem.W.nsIn K mainGlobals "KeyError"),
  fun K => Hq.isFree (PySem.W.nsIn K mainGlobals "LookupError"),
  fun K => Hq.isFree (PySem.W.nsIn K mainGlobals "ArithmeticError"),
  fun K => Hq.isFree (PySem.W.nsIn K mainGlobals "OverflowError"),
  fun K => Hq.isFree (PySem.W.nsIn K mainGlobals "RuntimeError"),
  fun K => Hq.isFree (PySem.W.nsIn K mainGlobals "ZeroDivisionError"),
  fun K => Hq.isFree (PySem.W.nsIn K mainGlobals "StopIteration"),
  fun K => decide ((Hq.tabsL K tf).map (·.2.1)).Nodup]
def fs : List (List (Hq.Frag → Bool)) := [fs0, fs1, fs2, fs3, fs4]
def hk : PySem.W.Hook := Hq.hook 40000 ds fs (tf.map (·.1))
def ob (s : PySem.W.SharedT) : hk.α := Hq.obsQ 40000 ds fs (tf.map (·.1)) (HandSHeadRun.getT s)
theorem ob_eq (s : PySem.W.SharedT) : ob s = hk.obs s.abs := Hq.hook_eq s
def nm0 : List PySem.Str := ["_wall", "NoWeb", "is_whole", "is_from", "Room", "MOST_ROOMS", "MOST_HEARD", "MOST_SIZE", "MOST_TABLE", "is_size", "are_hears", "rows_heard", "is_rule", "fault_of", "look_rooms", "Web", "is_known", "heard_cells", "way_by", "way", "_law_bag", "_law_take", "_law_unlike", "_law_rooms", "_law_web", "_law_pokes", "_law_needs", "_law_whole", "_law_is_way", "_law_long"]
def names : List PySem.Str := nm0
abbrev R : PySem.W.OpenRow := PySem.W.OpenLaw.row PySem.Challenge.rw_seenstands_k11_ways_down
abbrev qv : Program := PySem.W.view R.prog [35]
end Wd.Wh
namespace Wd.Wh
open PySem PyProof.Rows L2
set_option maxHeartbeats 0 in
theorem run (w : World) : HandSHeadRun.RunEq R qv hk ob 40000 names w := by
  intro os
  kernel_rfl
end Wd.Wh
namespace Al
open PySem L2
/-- the code objects that make lambdas: the code object, its table, the lambdas' name -/
class TabList where l : List (Addr × Addr × Str)
variable [TabList]
inductive D where
  | non | bl (b : Bool) | int (i : Int) | str (s : Str) | ty (n : String) | adr (a : Addr)
  | tup (l : List D) | lst (l : List D) | scr (l : List D) | ins (C : Addr) (ns : List Str) (l : List D)
  | clo (a : Addr) (aux : List (Addr × HO)) | dT (ks : List (List Key)) (l : List D) | dK (ks : List Key) (l : List D) | key (ks : List Key) | exc (a dx C : Addr) (ns : List Str) (l : List D)
mutual
def RD (K : PySem.W.Frag) (W : Hp) : D → V → Prop
  | .non, v => v = .non
  | .bl b, v => v = .bl b
  | .int i, v => v = .int i
  | .str s, v => v = .str s
  | .ty n, v => v = .ty n
  | .adr a, v => v = .ref a
  | .tup l, v => ∃ a vs, v = .ref a ∧ SqT K W a vs ∧ RDs K W l vs
  | .lst l, v => ∃ a vs, v = .ref a ∧ W a = some (.lst vs) ∧ RDs K W l vs
  | .scr l, v => ∃ a vs, v = .ref a ∧ SqL K W a vs ∧ RDs K W l vs
  | .ins C ns l, v => ∃ a dx vs, v = .ref a ∧ W a = some (.ins C dx (ns.zip vs)) ∧ ns.length = l.length ∧ RDs K W l vs
  | .clo a aux, v => v = .ref a ∧ ∀ p ∈ aux, W p.1 = some p.2
  | .dT ks l, v => ∃ a vs od, v = .ref a ∧ W a = some (.frz od (.dT (ks.zip vs))) ∧ ks.length = l.length ∧ RDs K W l vs
  | .dK ks l, v => ∃ a vs od, v = .ref a ∧ W a = some (.frz od (.dK (ks.zip vs))) ∧ ks.length = l.length ∧ RDs K W l vs
  | .key ks, v => ∃ a, v = .ref a ∧ W a = some (.tup (ks.map kV))
  | .exc a dx _ ns l, v => ∃ vs, v = .ref a ∧ W dx = some (.xd (ns.zip vs)) ∧ ns.length = l.length ∧ RDs K W l vs
def RDs (K : PySem.W.Frag) (W : Hp) : List D → List V → Prop
  | [], vs => vs = []
  | d :: l, vs => ∃ v r, vs = v :: r ∧ RD K W d v ∧ RDs K W l r
end
/-- what a slot holds: data, or the k-th mutable object -/
inductive AV where
  | d (x : D) | m (k : Nat)
/-- a mutable object -/
inductive MO where
  | lst (l : List D) | ins (C : Addr) (ns : List Str) (l : List AV) | ls (l : List AV) | dT (ks : List (List Key)) (l : List AV) | dK (ks : List Key) (l : List AV)
def AV.isD : AV → Bool | .d _ => true | .m _ => false
def MO.isD : MO → Bool | .lst _ => true | .ins _ _ l => l.all AV.isD | .ls l => l.all AV.isD | .dT _ l => l.all AV.isD | .dK _ l => l.all AV.isD
def AV.below (n : Nat) : AV → Bool | .d _ => true | .m k => decide (k < n)
def MO.below (n : Nat) : MO → Bool | .lst _ => true | .ins _ _ l => l.all (AV.below n) | .ls l => l.all (AV.below n) | .dT _ l => l.all (AV.below n) | .dK _ l => l.all (AV.below n)
section
variable {K : PySem.W.Frag} {W W' H H' : Hp} {μ : List Addr}
theorem sqt_mono (e : Same W W') {a : Addr} {xs : List V} (h : SqT K W a xs) : SqT K W' a xs := by
  rcases h with (h | ⟨o, h⟩) | h
  · exact .inl (.inl (e _ _ h))
  · exact .inl (.inr ⟨o, e _ _ h⟩)
  · exact .inr h
mutual
theorem RD.mono (e : Same W W') : ∀ {d : D} {v : V}, RD K W d v → RD K W' d v
  | .non, _, h => h
  | .bl _, _, h => h
  | .int _, _, h => h
  | .str _, _, h => h
  | .ty _, _, h => h
  | .adr _, _, h => h
  | .tup l, _, ⟨a, vs, e1, h, r⟩ => ⟨a, vs, e1, sqt_mono e h, RDs.mono e r⟩
  | .lst l, _, ⟨a, vs, e1, h, r⟩ => ⟨a, vs, e1, e _ _ h, RDs.mono e r⟩
  | .scr l, _, ⟨a, vs, e1, h, r⟩ => ⟨a, vs, e1, e.seq h, RDs.mono e r⟩
  | .ins C ns l, _, ⟨a, dx, vs, e1, h, n, r⟩ => ⟨a, dx, vs, e1, e _ _ h, n, RDs.mono e r⟩
  | .clo a aux, _, ⟨e1, h⟩ => ⟨e1, fun p hp => e _ _ (h p hp)⟩
  | .dT ks l, _, ⟨a, vs, od, e1, h, n, r⟩ => ⟨a, vs, od, e1, e _ _ h, n, RDs.mono e r⟩
  | .dK ks l, _, ⟨a, vs, od, e1, h, n, r⟩ => ⟨a, vs, od, e1, e _ _ h, n, RDs.mono e r⟩
  | .key ks, _, ⟨a, e1, h⟩ => ⟨a, e1, e _ _ h⟩
  | .exc a dx C ns l, _, ⟨vs, e1, h, n, r⟩ => ⟨vs, e1, e _ _ h, n, RDs.mono e r⟩
theorem RDs.mono (e : Same W W') : ∀ {l : List D} {vs : List V}, RDs K W l vs → RDs K W' l vs
  | [], _, h => h
  | d :: l, _, ⟨v, r, e1, h, t⟩ => ⟨v, r, e1, RD.mono e h, RDs.mono e t⟩
end
theorem RDs.length : ∀ {l : List D} {vs : List V}, RDs K W l vs → l.length = vs.length
  | [], _, h => by cases h; rfl
  | d :: l, _, ⟨v, r, e1, h, t⟩ => by subst e1; simp [RDs.length t]
theorem RDs.get : ∀ {l : List D} {vs : List V} {i : Nat} {d : D}, RDs K W l vs → l[i]? = some d → ∃ v, vs[i]? = some v ∧ RD K W d v
  | [], _, _, _, _, h => by simp at h
  | d :: l, _, 0, _, ⟨v, r, e1, h, t⟩, q => by subst e1; simp at q; subst q; exact ⟨v, rfl, h⟩
  | d :: l, _, i + 1, _, ⟨v, r, e1, h, t⟩, q => by
    subst e1
    obtain ⟨v', a, b⟩ := RDs.get (i := i) t (by simpa using q)
    exact ⟨v', by simpa using a, b⟩
theorem RDs.back : ∀ {l : List D} {vs : List V} {i : Nat} {v : V}, RDs K W l vs → vs[i]? = some v → ∃ d, l[i]? = some d ∧ RD K W d v
  | [], _, _, _, h, q => by cases h; simp at q
  | d :: l, _, 0, _, ⟨v, r, e1, h, t⟩, q => by subst e1; simp at q; subst q; exact ⟨d, rfl, h⟩
  | d :: l, _, i + 1, _, ⟨v, r, e1, h, t⟩, q => by
    subst e1
    obtain ⟨v', a, b⟩ := RDs.back (i := i) t (by simpa using q)
    exact ⟨v', by simpa using a, b⟩
theorem RDs.append : ∀ {l l' : List D} {vs vs' : List V}, RDs K W l vs → RDs K W l' vs' → RDs K W (l ++ l') (vs ++ vs')
  | [], _, _, _, h, q => by cases h; exact q
  | d :: l, _, _, _, ⟨v, r, e1, h, t⟩, q => by subst e1; exact ⟨v, r ++ _, rfl, h, RDs.append t q⟩
theorem RDs.one {d : D} {v : V} (h : RD K W d v) : RDs K W [d] [v] := ⟨v, [], rfl, h, rfl⟩
theorem RDs.set {d : D} {v : V} (h : RD K W d v) : ∀ {l : List D} {vs : List V} (i : Nat), RDs K W l vs → RDs K W (l.set i d) (vs.set i v)
  | [], _, _, q => by cases q; exact rfl
  | x :: l, _, 0, ⟨y, r, e1, a, t⟩ => by subst e1; exact ⟨v, r, rfl, h, t⟩
  | x :: l, _, i + 1, ⟨y, r, e1, a, t⟩ => by subst e1; exact ⟨y, _, rfl, a, RDs.set h i t⟩
theorem RDs.take : ∀ {l : List D} {vs : List V} (i : Nat), RDs K W l vs → RDs K W (l.take i) (vs.take i)
  | [], _, _, q => by cases q; simp [RDs]
  | x :: l, _, 0, ⟨y, r, e1, a, t⟩ => by subst e1; exact rfl
  | x :: l, _, i + 1, ⟨y, r, e1, a, t⟩ => by subst e1; exact ⟨y, _, rfl, a, RDs.take i t⟩
theorem RDs.drop : ∀ {l : List D} {vs : List V} (i : Nat), RDs K W l vs → RDs K W (l.drop i) (vs.drop i)
  | [], _, _, q => by cases q; simp [RDs]
  | x :: l, _, 0, ⟨y, r, e1, a, t⟩ => by subst e1; exact ⟨y, _, rfl, a, t⟩
  | x :: l, _, i + 1, ⟨y, r, e1, a, t⟩ => by subst e1; exact RDs.drop i t
theorem RDs.ints : ∀ {ns : List Int} {vs : List V}, RDs K W (ns.map D.int) vs → vs = ns.map V.int
  | [], _, h => h
  | n :: ns, _, ⟨v, r, e1, h, t⟩ => by subst e1; cases h; rw [RDs.ints t]; rfl
theorem RDs.of_ints : ∀ (ns : List Int), RDs K W (ns.map D.int) (ns.map V.int)
  | [] => rfl
  | n :: ns => ⟨_, _, rfl, rfl, RDs.of_ints ns⟩
def RA (K : PySem.W.Frag) (W : Hp) (μ : List Addr) : AV → V → Prop
  | .d x, v => RD K W x v
  | .m k, v => ∃ a, μ[k]? = some a ∧ v = .ref a
theorem RA.mono {μ' : List Addr} (e : Same W W') {x : AV} {v : V} (h : RA K W μ x v) : RA K W' (μ ++ μ') x v := by
  cases x with
  | d x => exact RD.mono e h
  | m k =>
    obtain ⟨a, h1, h2⟩ := h
    exact ⟨a, by rw [List.getElem?_append_left (List.getElem?_eq_some_iff.mp h1).1]; exact h1, h2⟩
def RAs (K : PySem.W.Frag) (W : Hp) (μ : List Addr) : List AV → List V → Prop
  | [], vs => vs = []
  | x :: l, vs => ∃ v r, vs = v :: r ∧ RA K W μ x v ∧ RAs K W μ l r
theorem RAs.mono {μ' : List Addr} (e : Same W W') : ∀ {l : List AV} {vs : List V}, RAs K W μ l vs → RAs K W' (μ ++ μ') l vs
  | [], _, h => h
  | d :: l, _, ⟨v, r, e1, h, t⟩ => ⟨v, r, e1, RA.mono e h, RAs.mono e t⟩
theorem RAs.length : ∀ {l : List AV} {vs : List V}, RAs K W μ l vs → l.length = vs.length
  | [], _, h => by cases h; rfl
  | d :: l, _, ⟨v, r, e1, h, t⟩ => by subst e1; simp [RAs.length t]
theorem RAs.append : ∀ {l l' : List AV} {vs vs' : List V}, RAs K W μ l vs → RAs K W μ l' vs' → RAs K W μ (l ++ l') (vs ++ vs')
  | [], _, _, _, h, q => by cases h; exact q
  | d :: l, _, _, _, ⟨v, r, e1, h, t⟩, q => by subst e1; exact ⟨v, r ++ _, rfl, h, RAs.append t q⟩
theorem RAs.of_ds : ∀ {l : List D} {vs : List V}, RAs K W μ (l.map AV.d) vs → RDs K W l vs
  | [], _, h => h
  | d :: l, _, ⟨v, r, e1, h, t⟩ => ⟨v, r, e1, h, RAs.of_ds t⟩
theorem RAs.get : ∀ {l : List AV} {vs : List V} {i : Nat} {d : AV}, RAs K W μ l vs → l[i]? = some d → ∃ v, vs[i]? = some v ∧ RA K W μ d v
  | [], _, _, _, _, h => by simp at h
  | d :: l, _, 0, _, ⟨v, r, e1, h, t⟩, q => by subst e1; simp at q; subst q; exact ⟨v, rfl, h⟩
  | d :: l, _, i + 1, _, ⟨v, r, e1, h, t⟩, q => by
    subst e1
    obtain ⟨v', a, b⟩ := RAs.get (i := i) t (by simpa using q)
    exact ⟨v', by simpa using a, b⟩
def OR (K : PySem.W.Frag) (W : Hp) (μ : List Addr) (H : Hp) : MO → Addr → Prop
  | .lst l, a => ∃ vs, H a = some (.lst vs) ∧ RDs K W l vs
  | .ins C ns l, a => ∃ dx vs, H a = some (.ins C dx (ns.zip vs)) ∧ ns.length = l.length ∧ RAs K W μ l vs
  | .ls l, a => ∃ vs, H a = some (.lst vs) ∧ RAs K W μ l vs
  | .dT ks l, a => ∃ vs, H a = some (.dT (ks.zip vs)) ∧ ks.length = l.length ∧ RAs K W μ l vs
  | .dK ks l, a => ∃ vs, H a = some (.dK (ks.zip vs)) ∧ ks.length = l.length ∧ RAs K W μ l vs
theorem OR.mono {μ' : List Addr} (e : Same W W') {o : MO} {a : Addr} (ha : ∀ u, H a = some u → H' a = some u) (h : OR K W μ H o a) : OR K W' (μ ++ μ') H' o a := by
  cases o with
  | lst l =>
    obtain ⟨vs, h1, h2⟩ := h
    exact ⟨vs, ha _ h1, RDs.mono e h2⟩
  | ins C ns l =>
    obtain ⟨dx, vs, h1, h2, h3⟩ := h
    exact ⟨dx, vs, ha _ h1, h2, RAs.mono e h3⟩
  | ls l =>
    obtain ⟨vs, h1, h3⟩ := h
    exact ⟨vs, ha _ h1, RAs.mono e h3⟩
  | dT ks l =>
    obtain ⟨vs, h1, h2, h3⟩ := h
    exact ⟨vs, ha _ h1, h2, RAs.mono e h3⟩
  | dK ks l =>
    obtain ⟨vs, h1, h2, h3⟩ := h
    exact ⟨vs, ha _ h1, h2, RAs.mono e h3⟩
theorem OR.live {o : MO} {a : Addr} (h : OR K W μ H o a) : ∃ u, H a = some u := by
  cases o with
  | lst l => obtain ⟨vs, h1, _⟩ := h; exact ⟨_, h1⟩
  | ins C ns l => obtain ⟨dx, vs, h1, _⟩ := h; exact ⟨_, h1⟩
  | ls l => obtain ⟨vs, h1, _⟩ := h; exact ⟨_, h1⟩
  | dT ks l => obtain ⟨vs, h1, _⟩ := h; exact ⟨_, h1⟩
  | dK ks l => obtain ⟨vs, h1, _⟩ := h; exact ⟨_, h1⟩
/-- what stands at a mutable object is no table and no other thing -/
def Plain (u : HO) : Prop := (∀ ps, u ≠ .tbl ps) ∧ (∀ φ, u ≠ .ext φ) ∧ ∀ xs, u ≠ .tup xs
theorem OR.plain {o : MO} {a : Addr} {u : HO} (h : OR K W μ H o a) (hu : H a = some u) : Plain u := by
  cases o with
  | lst l => obtain ⟨vs, h1, _⟩ := h; rw [h1] at hu; cases hu; exact ⟨(fun _ z => nomatch z), (fun _ z => nomatch z), (fun _ z => nomatch z)⟩
  | ins C ns l => obtain ⟨dx, vs, h1, _⟩ := h; rw [h1] at hu; cases hu; exact ⟨(fun _ z => nomatch z), (fun _ z => nomatch z), (fun _ z => nomatch z)⟩
  | ls l => obtain ⟨vs, h1, _⟩ := h; rw [h1] at hu; cases hu; exact ⟨(fun _ z => nomatch z), (fun _ z => nomatch z), (fun _ z => nomatch z)⟩
  | dT ks l => obtain ⟨vs, h1, _⟩ := h; rw [h1] at hu; cases hu; exact ⟨(fun _ z => nomatch z), (fun _ z => nomatch z), (fun _ z => nomatch z)⟩
  | dK ks l => obtain ⟨vs, h1, _⟩ := h; rw [h1] at hu; cases hu; exact ⟨(fun _ z => nomatch z), (fun _ z => nomatch z), (fun _ z => nomatch z)⟩
/-- the tables of code objects -/
def Tabs (H : Hp) : Prop := ∀ p ∈ TabList.l, LamX.TabS H p.2.1 p.2.2
theorem Tabs.keep (t : Tabs H) (e : ∀ b o, H b = some o → ¬ Plain o → H' b = some o) : Tabs H' := fun p hp => by
  obtain ⟨ps, h1, h2, h3⟩ := t p hp
  refine ⟨ps, e _ _ h1 (fun z => z.1 ps rfl), h2, fun pos cv hc => ?_⟩
  obtain ⟨c, e1, e2⟩ := h3 pos cv hc
  exact ⟨c, e1, e _ _ e2 (fun z => z.2.1 _ rfl)⟩
theorem Tabs.ext (t : Tabs H) (e : Same H H') : Tabs H' := t.keep fun b o h _ => e b o h
/-- the heap as it is seen: W what never changes any more, μ where the mutable objects stand, M what they hold -/
structure Sim (K : PySem.W.Frag) (W : Hp) (μ : List Addr) (M : List MO) (H : Hp) : Prop where
  sub : Same W H
  nd : μ.Nodup
  len : μ.length = M.length
  out : ∀ a ∈ μ, W a = none
  ob : ∀ (k : Nat) (a : Addr) (o : MO), μ[k]? = some a → M[k]? = some o → OR K W μ H o a
  tab : Tabs H
  tw : ∀ p ∈ TabList.l, W p.2.1 = none
theorem Sim.plain {M : List MO} (S : Sim K W μ M H) {a : Addr} {u : HO} (h : a ∈ μ) (hu : H a = some u) : Plain u := by
  obtain ⟨k, hk, e⟩ := List.getElem_of_mem h
  have hm : k < M.length := by rw [← S.len]; exact hk
  exact (S.ob k a M[k] (by rw [← e]; exact List.getElem?_eq_getElem hk) (List.getElem?_eq_getElem hm)).plain hu
theorem Sim.live {M : List MO} (S : Sim K W μ M H) {a : Addr} (h : a ∈ μ) : ∃ u, H a = some u := by
  obtain ⟨k, hk, e⟩ := List.getElem_of_mem h
  have hm : k < M.length := by rw [← S.len]; exact hk
  exact (S.ob k a M[k] (by rw [← e]; exact List.getElem?_eq_getElem hk) (List.getElem?_eq_getElem hm)).live
structure Base where
  W0 : Hp
  μ0 : List Addr
  H0 : Hp
structure Ok (B : Base) (W : Hp) (μ : List Addr) (H : Hp) : Prop where
  wsub : Same B.W0 W
  wnew : ∀ a o, W a = some o → B.W0 a = some o ∨ B.H0 a = none ∨ ¬ Plain o
  fr : ∀ a o, B.H0 a = some o → a ∉ B.μ0 → (∀ ps, o ≠ .tbl ps) → H a = some o
  pre : ∃ ext, μ = B.μ0 ++ ext ∧ ∀ a ∈ ext, B.H0 a = none
  live : ∀ a, H a = none → B.H0 a = none
theorem Ok.refl : Ok ⟨W, μ, H⟩ W μ H := ⟨fun _ _ h => h, fun _ _ h => .inl h, fun _ _ h _ _ => h, ⟨[], by simp, by simp⟩, fun _ h => h⟩
/-- behind a step from here: Ok to Ok -/
theorem Ok.trans {B : Base} {μ' μs : List Addr} (a : Ok B W μ H) (hs : ∀ x ∈ μs, x ∈ μ) (b : Ok ⟨W, μs, H⟩ W' μ' H') {e : List Addr} (he : μ' = μs ++ e) : Ok B W' (μ ++ e) H' := by
  obtain ⟨ext, e1, e2⟩ := a.pre
  obtain ⟨ext', e3, e4⟩ := b.pre
  have : e = ext' := List.append_cancel_left (he.symm.trans e3)
  subst this
  refine ⟨a.wsub.trans b.wsub, fun x o h => ?_, fun x o h hx ht => ?_, ⟨ext ++ e, by rw [e1, List.append_assoc], fun x hx => ?_⟩, fun x h => a.live x (b.live x h)⟩
  · rcases b.wnew x o h with h | h | h
    · exact a.wnew x o h
    · exact .inr (.inl (a.live x h))
    · exact .inr (.inr h)
  · refine b.fr x o (a.fr x o h hx ht) (fun hm => ?_) ht
    have hm := hs x hm
    rw [e1] at hm
    rcases List.mem_append.mp hm with hm | hm
    · exact hx hm
    · rw [e2 x hm] at h; cases h
  · rcases List.mem_append.mp hx with hx | hx
    · exact e2 x hx
    · exact a.live x (e4 x hx)
end
abbrev AEnv := List (Option AV)
def RE (K : PySem.W.Frag) (W : Hp) (μ : List Addr) (σ : AEnv) (τ : L2.St) : Prop := σ.length = τ.length ∧ ∀ (i : Nat) (x : AV), σ[i]? = some (some x) → ∃ v, τ[i]? = some (some v) ∧ RA K W μ x v
theorem RE.mono {K : PySem.W.Frag} {W W' : Hp} {μ μ' : List Addr} {σ : AEnv} {τ : L2.St} (e : Same W W') (h : RE K W μ σ τ) : RE K W' (μ ++ μ') σ τ :=
  ⟨h.1, fun i x q => let ⟨v, a, b⟩ := h.2 i x q; ⟨v, a, RA.mono e b⟩⟩
theorem RE.set {K : PySem.W.Frag} {W : Hp} {μ : List Addr} {σ : AEnv} {τ : L2.St} {x : AV} {v : V} (h : RE K W μ σ τ) (r : RA K W μ x v) (i : Nat) : RE K W μ (σ.set i (some x)) (τ.set i (some v)) := by
  refine ⟨by simp [h.1], fun j y q => ?_⟩
  by_cases hj : i = j
  · subst hj
    rw [List.getElem?_set] at q
    simp only [if_true] at q
    by_cases hl : i < σ.length
    · rw [if_pos hl] at q
      cases q
      exact ⟨v, by rw [List.getElem?_set]; simp [← h.1, hl], r⟩
    · rw [if_neg hl] at q; cases q
  · rw [List.getElem?_set_ne hj] at q
    obtain ⟨w, a, b⟩ := h.2 j y q
    exact ⟨w, by rw [List.getElem?_set_ne hj]; exact a, b⟩
theorem RE.setN {K : PySem.W.Frag} {W : Hp} {μ : List Addr} {σ : AEnv} {τ : L2.St} {u : Option V} (h : RE K W μ σ τ) (i : Nat) : RE K W μ (σ.set i none) (τ.set i u) := by
  refine ⟨by simp [h.1], fun j y q => ?_⟩
  by_cases hj : i = j
  · subst hj
    rw [List.getElem?_set] at q
    simp only [if_true] at q
    split at q <;> cases q
  · rw [List.getElem?_set_ne hj] at q
    obtain ⟨w, a, b⟩ := h.2 j y q
    exact ⟨w, by rw [List.getElem?_set_ne hj]; exact a, b⟩
/-- behind this: the state W μ M H of base B, beyond W1 μ1 -/
structure Go (B : Base) (K : PySem.W.Frag) (W1 : Hp) (μ1 : List Addr) (W : Hp) (μ : List Addr) (M : List MO) (H : Hp) : Prop where
  ok : Ok B W μ H
  sim : Sim K W μ M H
  wext : Same W1 W
  mext : ∃ e, μ = μ1 ++ e
theorem Go.trans {B : Base} {K : PySem.W.Frag} {W1 W2 W : Hp} {μ1 μ2 μ : List Addr} {M M' : List MO} {H H' : Hp} (a : Go B K W1 μ1 W2 μ2 M H) (b : Go B K W2 μ2 W μ M' H') : Go B K W1 μ1 W μ M' H' :=
  ⟨b.ok, b.sim, a.wext.trans b.wext, let ⟨e, h⟩ := a.mext; let ⟨f, g⟩ := b.mext; ⟨e ++ f, by rw [g, h, List.append_assoc]⟩⟩
theorem Go.refl {B : Base} {K : PySem.W.Frag} {W : Hp} {μ : List Addr} {M : List MO} {H : Hp} (o : Ok B W μ H) (s : Sim K W μ M H) : Go B K W μ W μ M H := ⟨o, s, fun _ _ h => h, ⟨[], by simp⟩⟩
theorem Go.ra {B : Base} {K : PySem.W.Frag} {W1 W : Hp} {μ1 μ : List Addr} {M : List MO} {H : Hp} (f : Go B K W1 μ1 W μ M H) {x : AV} {v : V} (h : RA K W1 μ1 x v) : RA K W μ x v := by
  obtain ⟨e, rfl⟩ := f.mext
  exact RA.mono f.wext h
theorem Go.ras {B : Base} {K : PySem.W.Frag} {W1 W : Hp} {μ1 μ : List Addr} {M : List MO} {H : Hp} (f : Go B K W1 μ1 W μ M H) {x : List AV} {v : List V} (h : RAs K W1 μ1 x v) : RAs K W μ x v := by
  obtain ⟨e, rfl⟩ := f.mext
  exact RAs.mono f.wext h
theorem Go.re {B : Base} {K : PySem.W.Frag} {W1 W : Hp} {μ1 μ : List Addr} {M : List MO} {H : Hp} (f : Go B K W1 μ1 W μ M H) {σ : AEnv} {τ : L2.St} (h : RE K W1 μ1 σ τ) : RE K W μ σ τ := by
  obtain ⟨e, rfl⟩ := f.mext
  exact RE.mono f.wext h
theorem Go.base {B : Base} {K : PySem.W.Frag} {W : Hp} {μ : List Addr} {M : List MO} {H : Hp} (o : Ok B W μ H) (s : Sim K W μ M H) : Go B K B.W0 B.μ0 W μ M H := ⟨o, s, o.wsub, let ⟨e, h, _⟩ := o.pre; ⟨e, h⟩⟩
section
variable (B : Base) (K : PySem.W.Frag)
/-- an expression, a test, arguments, a call on values, an operation on two values, a target, a statement, seen so -/
def AE (te : TE) (σ : AEnv) (M : List MO) (Φ : AV → List MO → Prop) : Prop := ∀ W μ H τ, Ok B W μ H → Sim K W μ M H → RE K W μ σ τ → ∀ Q : VK,
  (∀ x M' W' μ' H' v, Φ x M' → Go B K W μ W' μ' M' H' → RA K W' μ' x v → Q v H') → te τ H Q
def AT (tt : TT) (σ : AEnv) (M : List MO) (Φ : Bool → List MO → Prop) : Prop := ∀ W μ H τ, Ok B W μ H → Sim K W μ M H → RE K W μ σ τ → ∀ Q : Bool → Hp → Prop,
  (∀ b M' W' μ' H', Φ b M' → Go B K W μ W' μ' M' H' → Q b H') → tt τ H Q
def AA (ta : TA) (σ : AEnv) (M : List MO) (Φ : List AV → List MO → Prop) : Prop := ∀ W μ H τ, Ok B W μ H → Sim K W μ M H → RE K W μ σ τ → ∀ Q : List V → Hp → Prop,
  (∀ x M' W' μ' H' v, Φ x M' → Go B K W μ W' μ' M' H' → RAs K W' μ' x v → Q v H') → ta τ H Q
def AR (r : R2) (x y : AV) (M : List MO) (Φ : AV → List MO → Prop) : Prop := ∀ W μ H u w, Ok B W μ H → Sim K W μ M H → RA K W μ x u → RA K W μ y w → ∀ Q : VK,
  (∀ z M' W' μ' H' v, Φ z M' → Go B K W μ W' μ' M' H' → RA K W' μ' z v → Q v H') → r u w H Q
def AU (r : V → Hp → VK → Prop) (x : AV) (M : List MO) (Φ : AV → List MO → Prop) : Prop := ∀ W μ H u, Ok B W μ H → Sim K W μ M H → RA K W μ x u → ∀ Q : VK,
  (∀ z M' W' μ' H' v, Φ z M' → Go B K W μ W' μ' M' H' → RA K W' μ' z v → Q v H') → r u H Q
def AC (r : List V → Hp → VK → Prop) (xs : List AV) (M : List MO) (Φ : AV → List MO → Prop) : Prop := ∀ W μ H us, Ok B W μ H → Sim K W μ M H → RAs K W μ xs us → ∀ Q : VK,
  (∀ z M' W' μ' H' v, Φ z M' → Go B K W μ W' μ' M' H' → RA K W' μ' z v → Q v H') → r us H Q
def AG (g : TG) (x : AV) (σ : AEnv) (M : List MO) (Φ : AEnv → List MO → Prop) : Prop := ∀ W μ H τ v, Ok B W μ H → Sim K W μ M H → RE K W μ σ τ → RA K W μ x v → ∀ Q : L2.St → Hp → Prop,
  (∀ σ' M' W' μ' H' τ', Φ σ' M' → Go B K W μ W' μ' M' H' → RE K W' μ' σ' τ' → Q τ' H') → g v τ H Q
def AGs (g : TGs) (xs : List AV) (σ : AEnv) (M : List MO) (Φ : AEnv → List MO → Prop) : Prop := ∀ W μ H τ vs, Ok B W μ H → Sim K W μ M H → RE K W μ σ τ → RAs K W μ xs vs → ∀ Q : L2.St → Hp → Prop,
  (∀ σ' M' W' μ' H' τ', Φ σ' M' → Go B K W μ W' μ' M' H' → RE K W' μ' σ' τ' → Q τ' H') → g vs τ H Q
structure AEnds where
  nx : AEnv → List MO → Prop
  rt : AV → List MO → Prop
  bk : AEnv → List MO → Prop := fun _ _ => False
  ct : AEnv → List MO → Prop := fun _ _ => False
/-- W1 μ1: at least this is known -/
structure Fits (W1 : Hp) (μ1 : List Addr) (Φ : AEnds) (E : Ends) : Prop where
  nx : ∀ σ M W μ H τ, Φ.nx σ M → Go B K W1 μ1 W μ M H → RE K W μ σ τ → E.nx τ H
  rt : ∀ x M W μ H v, Φ.rt x M → Go B K B.W0 B.μ0 W μ M H → RA K W μ x v → E.rt v H
  bk : ∀ σ M W μ H τ, Φ.bk σ M → Go B K W1 μ1 W μ M H → RE K W μ σ τ → E.bk τ H
  ct : ∀ σ M W μ H τ, Φ.ct σ M → Go B K W1 μ1 W μ M H → RE K W μ σ τ → E.ct τ H
def AS (ts : TS) (σ : AEnv) (M : List MO) (Φ : AEnds) : Prop := ∀ W μ H τ, Ok B W μ H → Sim K W μ M H → RE K W μ σ τ → ∀ E : Ends, Fits B K W μ Φ E → ts E τ H
end
theorem Fits.mono {B : Base} {K : PySem.W.Frag} {W1 W : Hp} {μ1 μ : List Addr} {M : List MO} {H : Hp} {Φ : AEnds} {E : Ends} (f : Fits B K W1 μ1 Φ E) (a : Go B K W1 μ1 W μ M H) : Fits B K W μ Φ E :=
  ⟨fun σ M W' μ' H' τ p b r => f.nx σ M W' μ' H' τ p (a.trans b) r, f.rt, fun σ M W' μ' H' τ p b r => f.bk σ M W' μ' H' τ p (a.trans b) r, fun σ M W' μ' H' τ p b r => f.ct σ M W' μ' H' τ p (a.trans b) r⟩
end Al
namespace Al
open PySem L2
variable [Al.TabList]
section
variable {B : Base} {K : PySem.W.Frag} {σ : AEnv} {M : List MO} {Φ : AV → List MO → Prop} {ta tb te : TE} {r : R2} {x y : AV}
theorem ae_var {i : Nat} {x : AV} (h : σ[i]? = some (some x)) (k : Φ x M) : AE B K (tVar i) σ M Φ := fun W μ H τ o s e Q q =>
  let ⟨v, h1, h2⟩ := e.2 i x h
  ⟨v, h1, q _ _ _ _ _ _ k (.refl o s) h2⟩
theorem ae_int {i : Int} (k : Φ (.d (.int i)) M) : AE B K (tC (.int i)) σ M Φ := fun W μ H τ o s e Q q => q _ _ _ _ _ _ k (.refl o s) rfl
theorem ae_bl {b : Bool} (k : Φ (.d (.bl b)) M) : AE B K (tC (.bl b)) σ M Φ := fun W μ H τ o s e Q q => q _ _ _ _ _ _ k (.refl o s) rfl
theorem ae_non (k : Φ (.d .non) M) : AE B K (tC .non) σ M Φ := fun W μ H τ o s e Q q => q _ _ _ _ _ _ k (.refl o s) rfl
theorem ae_str {z : Str} (k : Φ (.d (.str z)) M) : AE B K (tC (.str z)) σ M Φ := fun W μ H τ o s e Q q => q _ _ _ _ _ _ k (.refl o s) rfl
theorem ae_ty {n : String} (k : Φ (.d (.ty n)) M) : AE B K (tC (.ty n)) σ M Φ := fun W μ H τ o s e Q q => q _ _ _ _ _ _ k (.refl o s) rfl
theorem ae_adr {a : Addr} (k : Φ (.d (.adr a)) M) : AE B K (tC (.ref a)) σ M Φ := fun W μ H τ o s e Q q => q _ _ _ _ _ _ k (.refl o s) rfl
theorem AE.imp {Φ' : AV → List MO → Prop} (h : AE B K te σ M Φ) (f : ∀ x M', Φ x M' → Φ' x M') : AE B K te σ M Φ' := fun W μ H τ o s e Q q =>
  h W μ H τ o s e Q fun x M' W' μ' H' v p fi r => q x M' W' μ' H' v (f _ _ p) fi r
theorem ae_op (h : AE B K ta σ M fun x M1 => AE B K tb σ M1 fun y M2 => AR B K r x y M2 Φ) : AE B K (tOp r ta tb) σ M Φ := fun W μ H τ o s e Q q =>
  h W μ H τ o s e _ fun x M1 W1 μ1 H1 v p f1 r1 => p W1 μ1 H1 τ f1.ok f1.sim (f1.re e) _ fun y M2 W2 μ2 H2 w p2 f2 r2 =>
    p2 W2 μ2 H2 v w f2.ok f2.sim (f2.ra r1) r2 _ fun z M3 W3 μ3 H3 v3 p3 f3 r3 => q z M3 W3 μ3 H3 v3 p3 ((f1.trans f2).trans f3) r3
theorem ae_un {r : V → Hp → VK → Prop} (h : AE B K ta σ M fun x M1 => AU B K r x M1 Φ) : AE B K (tUn r ta) σ M Φ := fun W μ H τ o s e Q q =>
  h W μ H τ o s e _ fun x M1 W1 μ1 H1 v p f1 r1 => p W1 μ1 H1 v f1.ok f1.sim r1 _ fun z M3 W3 μ3 H3 v3 p3 f3 r3 => q z M3 W3 μ3 H3 v3 p3 (f1.trans f3) r3
theorem aa_nil {Φ : List AV → List MO → Prop} (k : Φ [] M) : AA B K tNil σ M Φ := fun W μ H τ o s e Q q => q _ _ _ _ _ _ k (.refl o s) rfl
theorem aa_cons {tr : TA} {Φ : List AV → List MO → Prop} (h : AE B K ta σ M fun x M1 => AA B K tr σ M1 fun xs M2 => Φ (x :: xs) M2) : AA B K (tCons ta tr) σ M Φ := fun W μ H τ o s e Q q =>
  h W μ H τ o s e _ fun x M1 W1 μ1 H1 v p f1 r1 => p W1 μ1 H1 τ f1.ok f1.sim (f1.re e) _ fun xs M2 W2 μ2 H2 vs p2 f2 r2 => q _ _ _ _ _ _ p2 (f1.trans f2) ⟨v, vs, rfl, f2.ra r1, r2⟩
theorem ae_cb {r : List V → Hp → VK → Prop} {ta : TA} (h : AA B K ta σ M fun xs M1 => AC B K r xs M1 Φ) : AE B K (tCB r ta) σ M Φ := fun W μ H τ o s e Q q =>
  h W μ H τ o s e _ fun xs M1 W1 μ1 H1 vs p f1 r1 => p W1 μ1 H1 vs f1.ok f1.sim r1 _ fun z M2 W2 μ2 H2 v p2 f2 r2 => q _ _ _ _ _ _ p2 (f1.trans f2) r2
theorem ar_i0 {g : Int → Int → Int} {i j : Int} (k : Φ (.d (.int (g i j))) M) : AR B K (rI0 fun i j => .int (g i j)) (.d (.int i)) (.d (.int j)) M Φ := fun W μ H u w o s hu hw Q q => by
  cases hu; cases hw
  exact ⟨i, j, rfl, rfl, q _ _ _ _ _ _ k (.refl o s) rfl⟩
theorem ar_b0 {g : Int → Int → Bool} {i j : Int} (k : Φ (.d (.bl (g i j))) M) : AR B K (rI0 fun i j => .bl (g i j)) (.d (.int i)) (.d (.int j)) M Φ := fun W μ H u w o s hu hw Q q => by
  cases hu; cases hw
  exact ⟨i, j, rfl, rfl, q _ _ _ _ _ _ k (.refl o s) rfl⟩
theorem ar_i {C : Int → Int → Prop} {g : Int → Int → Int} {i j : Int} (hc : C i j) (k : Φ (.d (.int (g i j))) M) : AR B K (rI C fun i j => .int (g i j)) (.d (.int i)) (.d (.int j)) M Φ := fun W μ H u w o s hu hw Q q => by
  cases hu; cases hw
  exact ⟨i, j, rfl, rfl, hc, q _ _ _ _ _ _ k (.refl o s) rfl⟩
theorem dec_int (i j : Int) : decide (V.int i = V.int j) = decide (i = j) := by
  by_cases h : i = j
  · subst h; simp
  · rw [decide_eq_false h, decide_eq_false (fun e => h (V.int.inj e))]
theorem dec_str (i j : Str) : decide (V.str i = V.str j) = decide (i = j) := by
  by_cases h : i = j
  · subst h; simp
  · rw [decide_eq_false h, decide_eq_false (fun e => h (V.str.inj e))]
theorem dec_bl (i j : Bool) : decide (V.bl i = V.bl j) = decide (i = j) := by
  by_cases h : i = j
  · subst h; simp
  · rw [decide_eq_false h, decide_eq_false (fun e => h (V.bl.inj e))]
theorem ar_eqI {i j : Int} (k : Φ (.d (.bl (decide (i = j)))) M) : AR B K rEq (.d (.int i)) (.d (.int j)) M Φ := fun W μ H u w o s hu hw Q q => by
  cases hu; cases hw
  exact ⟨rfl, by rw [dec_int]; exact q _ _ _ _ _ _ k (.refl o s) rfl⟩
theorem ar_neI {i j : Int} (k : Φ (.d (.bl (!decide (i = j)))) M) : AR B K rNe (.d (.int i)) (.d (.int j)) M Φ := fun W μ H u w o s hu hw Q q => by
  cases hu; cases hw
  exact ⟨rfl, by rw [dec_int]; exact q _ _ _ _ _ _ k (.refl o s) rfl⟩
theorem ar_eqS {i j : Str} (k : Φ (.d (.bl (decide (i = j)))) M) : AR B K rEq (.d (.str i)) (.d (.str j)) M Φ := fun W μ H u w o s hu hw Q q => by
  cases hu; cases hw
  exact ⟨rfl, by rw [dec_str]; exact q _ _ _ _ _ _ k (.refl o s) rfl⟩
theorem ar_neS {i j : Str} (k : Φ (.d (.bl (!decide (i = j)))) M) : AR B K rNe (.d (.str i)) (.d (.str j)) M Φ := fun W μ H u w o s hu hw Q q => by
  cases hu; cases hw
  exact ⟨rfl, by rw [dec_str]; exact q _ _ _ _ _ _ k (.refl o s) rfl⟩
theorem ar_eqB {i j : Bool} (k : Φ (.d (.bl (decide (i = j)))) M) : AR B K rEq (.d (.bl i)) (.d (.bl j)) M Φ := fun W μ H u w o s hu hw Q q => by
  cases hu; cases hw
  exact ⟨rfl, by rw [dec_bl]; exact q _ _ _ _ _ _ k (.refl o s) rfl⟩
theorem ar_neB {i j : Bool} (k : Φ (.d (.bl (!decide (i = j)))) M) : AR B K rNe (.d (.bl i)) (.d (.bl j)) M Φ := fun W μ H u w o s hu hw Q q => by
  cases hu; cases hw
  exact ⟨rfl, by rw [dec_bl]; exact q _ _ _ _ _ _ k (.refl o s) rfl⟩
def isNon : D → Bool | .non => true | _ => false
theorem rd_non {W : Hp} {x : D} {v : V} (h : RD K W x v) : decide (v = .non) = isNon x := by
  cases x with
  | non => cases h; rfl
  | bl b => cases h; rfl
  | int b => cases h; rfl
  | str b => cases h; rfl
  | ty b => cases h; rfl
  | adr b => cases h; rfl
  | tup l => obtain ⟨a, vs, rfl, _⟩ := h; rfl
  | lst l => obtain ⟨a, vs, rfl, _⟩ := h; rfl
  | scr l => obtain ⟨a, vs, rfl, _⟩ := h; rfl
  | ins C ns l => obtain ⟨a, dx, vs, rfl, _⟩ := h; rfl
  | clo a u => obtain ⟨rfl, _⟩ := h; rfl
  | dT ks l => obtain ⟨a, vs, od, rfl, _⟩ := h; rfl
  | dK ks l => obtain ⟨a, vs, od, rfl, _⟩ := h; rfl
  | key ks => obtain ⟨a, rfl, _⟩ := h; rfl
  | exc a dx C ns l => obtain ⟨vs, rfl, _⟩ := h; rfl
theorem ar_isN {x : D} (k : Φ (.d (.bl (isNon x))) M) : AR B K (fun x y H Q => y = .non ∧ Q (.bl (decide (x = .non))) H) (.d x) (.d .non) M Φ := fun W μ H u w o s hu hw Q q => by
  cases hw
  refine ⟨rfl, ?_⟩
  rw [rd_non hu]
  exact q _ _ _ _ _ _ k (.refl o s) rfl
theorem ar_notN {x : D} (k : Φ (.d (.bl (!isNon x))) M) : AR B K (fun x y H Q => y = .non ∧ Q (.bl (!decide (x = .non))) H) (.d x) (.d .non) M Φ := fun W μ H u w o s hu hw Q q => by
  cases hw
  refine ⟨rfl, ?_⟩
  rw [rd_non hu]
  exact q _ _ _ _ _ _ k (.refl o s) rfl
theorem atI_rel {W : Hp} {l : List D} {vs : List V} {i : Int} {d : D} (r : RDs K W l vs) (h : atI l i = some d) : ∃ v, atI vs i = some v ∧ RD K W d v := by
  unfold atI at h ⊢
  rw [← r.length]
  cases e : ixN l.length i with
  | none => rw [e] at h; cases h
  | some j =>
    rw [e] at h
    exact r.get h
theorem ar_ixM {k : Nat} {i : Int} {l : List D} {d : D} (hm : M[k]? = some (.lst l)) (ha : atI l i = some d) (q : Φ (.d d) M) : AR B K (rIxL K) (.m k) (.d (.int i)) M Φ := fun W μ H u w o s hu hw Q qq => by
  obtain ⟨a, h1, rfl⟩ := hu
  cases hw
  obtain ⟨vs, h2, h3⟩ := s.ob k a _ h1 hm
  obtain ⟨v, h4, h5⟩ := atI_rel h3 ha
  exact ⟨a, vs, i, v, rfl, rfl, .inl (.inl h2), h4, qq _ _ _ _ _ _ q (.refl o s) h5⟩
theorem ar_ixL {i : Int} {l : List D} {d : D} (ha : atI l i = some d) (q : Φ (.d d) M) : AR B K (rIxL K) (.d (.lst l)) (.d (.int i)) M Φ := fun W μ H u w o s hu hw Q qq => by
  obtain ⟨a, vs, rfl, h2, h3⟩ := hu
  cases hw
  obtain ⟨v, h4, h5⟩ := atI_rel h3 ha
  exact ⟨a, vs, i, v, rfl, rfl, SqL.of (s.sub _ _ h2), h4, qq _ _ _ _ _ _ q (.refl o s) h5⟩
theorem ar_ixS {i : Int} {l : List D} {d : D} (ha : atI l i = some d) (q : Φ (.d d) M) : AR B K (rIxL K) (.d (.scr l)) (.d (.int i)) M Φ := fun W μ H u w o s hu hw Q qq => by
  obtain ⟨a, vs, rfl, h2, h3⟩ := hu
  cases hw
  obtain ⟨v, h4, h5⟩ := atI_rel h3 ha
  exact ⟨a, vs, i, v, rfl, rfl, s.sub.seq h2, h4, qq _ _ _ _ _ _ q (.refl o s) h5⟩
theorem ar_ixT {i : Int} {l : List D} {d : D} (ha : atI l i = some d) (q : Φ (.d d) M) : AR B K (rIxT K) (.d (.tup l)) (.d (.int i)) M Φ := fun W μ H u w o s hu hw Q qq => by
  obtain ⟨a, vs, rfl, h2, h3⟩ := hu
  cases hw
  obtain ⟨v, h4, h5⟩ := atI_rel h3 ha
  exact ⟨a, vs, i, v, rfl, rfl, sqt_mono s.sub h2, h4, qq _ _ _ _ _ _ q (.refl o s) h5⟩
theorem same_upd {H : Hp} {p : Addr} {o : HO} (h : H p = none) : Same H (upd H p o) := fun b u e => by
  rw [upd_ne (ne_of_none e h)]; exact e
/-- a new object that never changes -/
theorem go_new {W : Hp} {μ : List Addr} {H : Hp} {p : Addr} {u : HO} (o : Ok B W μ H) (s : Sim K W μ M H) (hp : H p = none) : Go B K W μ (upd W p u) μ M (upd H p u) := by
  have wp : W p = none := by
    cases e : W p with
    | none => rfl
    | some u => rw [s.sub p u e] at hp; cases hp
  have np : ∀ a ∈ μ, a ≠ p := fun a ha e => by
    obtain ⟨u, h⟩ := s.live ha
    rw [e, hp] at h; cases h
  refine ⟨⟨fun a v h => same_upd wp a v (o.wsub a v h), fun a v h => ?_, fun a v h hx ht => same_upd hp a v (o.fr a v h hx ht), o.pre, fun a h => ?_⟩, ⟨fun a v h => ?_, s.nd, s.len, fun a h => ?_, fun k a v h1 h2 => ?_, s.tab.ext (same_upd hp), fun p hpt => by rw [upd_ne (fun z => by obtain ⟨ps, h1, _⟩ := s.tab p hpt; rw [z, hp] at h1; cases h1)]; exact s.tw p hpt⟩, same_upd wp, ⟨[], by simp⟩⟩
  · by_cases e : a = p
    · subst e; exact .inr (.inl (o.live _ hp))
    · rw [upd_ne e] at h; exact o.wnew a v h
  · by_cases e : a = p
    · subst e; exact o.live _ hp
    · rw [upd_ne e] at h; exact o.live a h
  · by_cases e : a = p
    · subst e; rw [upd_same] at h ⊢; exact h
    · rw [upd_ne e] at h ⊢; exact s.sub a v h
  · rw [upd_ne (np a h)]; exact s.out a h
  · have q := (s.ob k a v h1 h2).mono (μ' := []) (same_upd (o := u) wp) (H' := upd H p u) (fun w e => by rw [upd_ne (np a (List.mem_of_getElem? h1))]; exact e)
    rwa [List.append_nil] at q
/-- a new mutable object -/
theorem go_mut {W : Hp} {μ : List Addr} {H : Hp} {p : Addr} {u : HO} {mo : MO} (o : Ok B W μ H) (s : Sim K W μ M H) (hp : H p = none) (ho : OR K W (μ ++ [p]) (upd H p u) mo p) : Go B K W μ W (μ ++ [p]) (M ++ [mo]) (upd H p u) := by
  have wp : W p = none := by
    cases e : W p with
    | none => rfl
    | some u => rw [s.sub p u e] at hp; cases hp
  have np : ∀ a ∈ μ, a ≠ p := fun a ha e => by
    obtain ⟨u, h⟩ := s.live ha
    rw [e, hp] at h; cases h
  obtain ⟨ext, e1, e2⟩ := o.pre
  refine ⟨⟨o.wsub, o.wnew, fun a v h hx ht => same_upd hp a v (o.fr a v h hx ht), ⟨ext ++ [p], by rw [e1, List.append_assoc], fun x hx => ?_⟩, fun a h => ?_⟩, ⟨fun a v h => ?_, ?_, by simp [s.len], fun a h => ?_, fun k a v h1 h2 => ?_, s.tab.ext (same_upd hp), s.tw⟩, fun _ _ h => h, ⟨[p], rfl⟩⟩
  · rcases List.mem_append.mp hx with hx | hx
    · exact e2 x hx
    · rw [List.mem_singleton.mp hx]; exact o.live p hp
  · by_cases e : a = p
    · subst e; exact o.live _ hp
    · rw [upd_ne e] at h; exact o.live a h
  · have : a ≠ p := fun e => by rw [e, wp] at h; cases h
    rw [upd_ne this]; exact s.sub a v h
  · refine List.nodup_append.mpr ⟨s.nd, by simp, fun a ha b hb e => ?_⟩
    rw [List.mem_singleton.mp hb] at e
    exact np a ha e
  · rcases List.mem_append.mp h with h | h
    · exact s.out a h
    · rw [List.mem_singleton.mp h]; exact wp
  · rw [List.getElem?_append] at h1 h2
    by_cases hk : k < μ.length
    · rw [if_pos hk] at h1
      rw [if_pos (by rw [← s.len]; exact hk)] at h2
      exact (s.ob k a v h1 h2).mono (fun _ _ h => h) (fun w e => by rw [upd_ne (np a (List.mem_of_getElem? h1))]; exact e)
    · rw [if_neg hk] at h1
      rw [if_neg (by rw [← s.len]; exact hk)] at h2
      have hk0 : k - μ.length = 0 := by
        have := (List.getElem?_eq_some_iff.mp h1).1
        simp at this
        omega
      rw [hk0] at h1
      have hk1 : k - M.length = 0 := by rw [← s.len]; exact hk0
      rw [hk1] at h2
      simp at h1 h2
      subst h1; subst h2
      exact ho
theorem ae_tup {ta : TA} (h : AA B K ta σ M fun xs M1 => ∃ ds : List D, xs = ds.map AV.d ∧ ds.length ≤ sizeLine ∧ Φ (.d (.tup ds)) M1) : AE B K (tTup ta) σ M Φ := fun W μ H τ o s e Q q =>
  h W μ H τ o s e _ fun xs M1 W1 μ1 H1 vs ⟨ds, e1, hz, p⟩ f1 r1 => by
    subst e1
    have r2 := r1.of_ds
    refine ⟨by rw [← r2.length]; exact hz, fun a ha => ?_⟩
    have f2 := go_new (u := .tup vs) f1.ok f1.sim ha
    exact q _ _ _ _ _ _ p (f1.trans f2) ⟨a, vs, rfl, .inl (.inl upd_same), RDs.mono f2.wext r2⟩
/-- a list that never changes -/
theorem ae_lst {ta : TA} (h : AA B K ta σ M fun xs M1 => ∃ ds : List D, xs = ds.map AV.d ∧ ds.length ≤ sizeLine ∧ Φ (.d (.lst ds)) M1) : AE B K (tLst ta) σ M Φ := fun W μ H τ o s e Q q =>
  h W μ H τ o s e _ fun xs M1 W1 μ1 H1 vs ⟨ds, e1, hz, p⟩ f1 r1 => by
    subst e1
    have r2 := r1.of_ds
    refine ⟨by rw [← r2.length]; exact hz, fun a ha => ?_⟩
    have f2 := go_new (u := .lst vs) f1.ok f1.sim ha
    exact q _ _ _ _ _ _ p (f1.trans f2) ⟨a, vs, rfl, upd_same, RDs.mono f2.wext r2⟩
/-- a list that will change -/
theorem ae_lstM {ta : TA} (h : AA B K ta σ M fun xs M1 => ∃ ds : List D, xs = ds.map AV.d ∧ ds.length ≤ sizeLine ∧ Φ (.m M1.length) (M1 ++ [.lst ds])) : AE B K (tLst ta) σ M Φ := fun W μ H τ o s e Q q =>
  h W μ H τ o s e _ fun xs M1 W1 μ1 H1 vs ⟨ds, e1, hz, p⟩ f1 r1 => by
    subst e1
    have r2 := r1.of_ds
    refine ⟨by rw [← r2.length]; exact hz, fun a ha => ?_⟩
    have f2 := go_mut (u := .lst vs) (mo := .lst ds) f1.ok f1.sim ha ⟨vs, upd_same, r2⟩
    refine q _ _ _ _ _ _ p (f1.trans f2) ⟨a, ?_, rfl⟩
    rw [← f1.sim.len, List.getElem?_append_right (Nat.le_refl _)]
    simp
/-- a mutable object written -/
theorem go_set {W : Hp} {μ : List Addr} {H : Hp} {k : Nat} {a : Addr} {u : HO} {mo : MO} (o : Ok B W μ H) (s : Sim K W μ M H) (hk : μ[k]? = some a) (ho : OR K W μ (upd H a u) mo a) : Go B K W μ W μ (M.set k mo) (upd H a u) := by
  have ha : a ∈ μ := List.mem_of_getElem? hk
  obtain ⟨ext, e1, e2⟩ := o.pre
  obtain ⟨v0, hv0⟩ := s.live ha
  refine ⟨⟨o.wsub, o.wnew, fun b v h hx ht => ?_, o.pre, fun b h => ?_⟩, ⟨fun b v h => ?_, s.nd, by simp [s.len], s.out, fun j b v h1 h2 => ?_, s.tab.keep fun b v h hn => ?_, s.tw⟩, fun _ _ h => h, ⟨[], by simp⟩⟩
  · have : b ≠ a := fun e => by
      subst e
      rw [e1] at ha
      rcases List.mem_append.mp ha with z | z
      · exact hx z
      · rw [e2 _ z] at h; cases h
    rw [upd_ne this]; exact o.fr b v h hx ht
  · by_cases e : b = a
    · subst e; rw [upd_same] at h; cases h
    · rw [upd_ne e] at h; exact o.live b h
  · have : b ≠ a := fun e => by rw [e, s.out a ha] at h; cases h
    rw [upd_ne this]; exact s.sub b v h
  · by_cases e : j = k
    · subst e
      rw [hk] at h1; cases h1
      have hl : j < M.length := by rw [← s.len]; exact (List.getElem?_eq_some_iff.mp hk).1
      rw [List.getElem?_set_self hl] at h2
      cases h2
      exact ho
    · rw [List.getElem?_set_ne (Ne.symm e)] at h2
      have : b ≠ a := fun z => by
        subst z
        obtain ⟨l1, q1⟩ := List.getElem?_eq_some_iff.mp h1
        obtain ⟨l2, q2⟩ := List.getElem?_eq_some_iff.mp hk
        exact e ((List.getElem_inj s.nd).mp (q1.trans q2.symm))
      have q := (s.ob j b v h1 h2).mono (μ' := []) (fun _ _ h => h) (H' := upd H a u) (fun w e => by rw [upd_ne this]; exact e)
      rwa [List.append_nil] at q
  · have : b ≠ a := fun z => by subst z; exact hn (s.plain ha h)
    rw [upd_ne this]; exact h
end
end Al
namespace Al
open PySem L2
variable [Al.TabList]
abbrev Exc := Addr × List (Str × D)
abbrev ASp := List AV → List MO → (AV → List MO → Prop) → (Exc → List MO → Prop) → Prop
/-- an exception: its class, its fields -/
def RX (K : PySem.W.Frag) (W H : Hp) (x : Exc) (cls : Value) (d : Option Addr) : Prop := cls = .ref x.1 ∧ ∃ dx vs, d = some dx ∧ W dx = some (.xd ((x.2.map (·.1)).zip vs)) ∧ RDs K W (x.2.map (·.2)) vs
def conc (K : PySem.W.Frag) (asp : ASp) : Sp := fun vs H Q E => ∃ W μ M xs, Sim K W μ M H ∧ RAs K W μ xs vs ∧
  asp xs M (fun x M' => ∀ W' μ' H' v, Go ⟨W, μ, H⟩ K W μ W' μ' M' H' → RA K W' μ' x v → Q v H')
    (fun x M' => ∀ W' μ' H' cls d, Go ⟨W, μ, H⟩ K W μ W' μ' M' H' → RX K W' H' x cls d → E cls d H')
/-- what is wanted of an exception -/
def EFits (B : Base) (K : PySem.W.Frag) (Ψ : Exc → List MO → Prop) (E : XK) : Prop := ∀ x M W μ H cls d, Ψ x M → Ok B W μ H → Sim K W μ M H → RX K W H x cls d → E cls d H
def Mono (asp : ASp) : Prop := ∀ xs M Φ Φ' Ψ Ψ', (∀ x M', Φ x M' → Φ' x M') → (∀ x M', Ψ x M' → Ψ' x M') → asp xs M Φ Ψ → asp xs M Φ' Ψ'
def subK (M : List MO) (ks : List Nat) : List MO := ks.map fun k => M.getD k (.lst [])
def putK : List MO → List Nat → List MO → List MO
  | M, k :: ks, o :: os => putK (M.set k o) ks os
  | M, _, _ => M
/-- the callee's numbers, renamed -/
def renV (n : Nat) (ks : List Nat) : AV → AV
  | .d x => .d x
  | .m j => .m (if j < ks.length then ks.getD j 0 else n + (j - ks.length))
def renO (n : Nat) (ks : List Nat) : MO → MO
  | .lst l => .lst l
  | .ins C ns l => .ins C ns (l.map (renV n ks))
  | .ls l => .ls (l.map (renV n ks))
  | .dT ds l => .dT ds (l.map (renV n ks))
  | .dK ds l => .dK ds (l.map (renV n ks))
theorem putK_len : ∀ (M : List MO) (ks : List Nat) (os : List MO), (putK M ks os).length = M.length
  | M, [], _ => by unfold putK; rfl
  | M, _ :: _, [] => by unfold putK; rfl
  | M, k :: ks, o :: os => by
    unfold putK
    rw [putK_len]; simp
theorem putK_out : ∀ (M : List MO) (ks : List Nat) (os : List MO) (j : Nat), j ∉ ks → (putK M ks os)[j]? = M[j]?
  | M, [], _, j, _ => by unfold putK; rfl
  | M, _ :: _, [], j, _ => by unfold putK; rfl
  | M, k :: ks, o :: os, j, h => by
    unfold putK
    rw [putK_out _ ks os j (fun z => h (List.mem_cons_of_mem _ z)), List.getElem?_set_ne]
    intro z; exact h (by rw [z]; exact List.mem_cons_self)
theorem putK_in : ∀ (M : List MO) (ks : List Nat) (os : List MO) (i k : Nat) (o : MO), ks.Nodup → (∀ k ∈ ks, k < M.length) → ks[i]? = some k → (putK M ks os)[k]? = some o → ks.length = os.length → os[i]? = some o
  | M, [], os, i, k, o, _, _, h, _, _ => by simp at h
  | M, _ :: _, [], i, k, o, _, _, h, _, e => by simp at e
  | M, k' :: ks, o' :: os, 0, k, o, nd, lt, h, q, e => by
    simp at h; subst h
    unfold putK at q
    rw [putK_out _ ks os k' (List.nodup_cons.mp nd).1, List.getElem?_set_self (lt _ List.mem_cons_self)] at q
    simpa using q
  | M, k' :: ks, o' :: os, i + 1, k, o, nd, lt, h, q, e => by
    unfold putK at q
    have := putK_in (M.set k' o') ks os i k o (List.nodup_cons.mp nd).2 (fun z hz => by simp; exact lt z (List.mem_cons_of_mem _ hz)) (by simpa using h) q (by simpa using e)
    simpa using this
section
variable {B : Base} {K : PySem.W.Frag} {W W' H H' : Hp} {μ μ' : List Addr} {M M2 : List MO} {ks : List Nat}
def subA (μ : List Addr) (ks : List Nat) : List Addr := ks.map fun k => μ.getD k 0
theorem subA_get {i k : Nat} (hk : ks[i]? = some k) (hl : k < μ.length) : (subA μ ks)[i]? = μ[k]? := by
  unfold subA
  rw [List.getElem?_map, hk]
  simp [List.getD, hl]
theorem subA_mem {a : Addr} (hl : ∀ k ∈ ks, k < μ.length) (h : a ∈ subA μ ks) : a ∈ μ := by
  unfold subA at h
  obtain ⟨k, hk, rfl⟩ := List.mem_map.mp h
  rw [List.getD, List.getElem?_eq_getElem (hl k hk)]
  exact List.getElem_mem _
theorem ra_ren {e : List Addr} {x : AV} {v : V} (hl : ∀ k ∈ ks, k < μ.length) (h : RA K W (subA μ ks ++ e) x v) : RA K W (μ ++ e) (renV μ.length ks x) v := by
  cases x with
  | d x => exact h
  | m j =>
    obtain ⟨a, h1, h2⟩ := h
    have sl : (subA μ ks).length = ks.length := by unfold subA; simp
    refine ⟨a, ?_, h2⟩
    show (μ ++ e)[if j < ks.length then ks.getD j 0 else μ.length + (j - ks.length)]? = some a
    rw [List.getElem?_append, sl] at h1
    by_cases hj : j < ks.length
    · rw [if_pos hj] at h1 ⊢
      have hk : ks[j]? = some (ks.getD j 0) := by rw [List.getD, List.getElem?_eq_getElem hj]; rfl
      have hm := hl _ (List.mem_of_getElem? hk)
      rw [subA_get hk hm] at h1
      rw [List.getElem?_append_left hm]
      exact h1
    · rw [if_neg hj] at h1 ⊢
      rw [List.getElem?_append_right (Nat.le_add_right _ _), Nat.add_sub_cancel_left]
      exact h1
theorem ras_ren {e : List Addr} (hl : ∀ k ∈ ks, k < μ.length) : ∀ {x : List AV} {v : List V}, RAs K W (subA μ ks ++ e) x v → RAs K W (μ ++ e) (x.map (renV μ.length ks)) v
  | [], _, h => h
  | d :: l, _, ⟨v, r, e1, h, t⟩ => ⟨v, r, e1, ra_ren hl h, ras_ren hl t⟩
theorem or_ren {e : List Addr} {o : MO} {a : Addr} (hl : ∀ k ∈ ks, k < μ.length) (h : OR K W (subA μ ks ++ e) H o a) : OR K W (μ ++ e) H (renO μ.length ks o) a := by
  cases o with
  | lst l => exact h
  | ins C ns l =>
    obtain ⟨dx, vs, h1, h2, h3⟩ := h
    exact ⟨dx, vs, h1, by simp [h2], ras_ren hl h3⟩
  | ls l =>
    obtain ⟨vs, h1, h3⟩ := h
    exact ⟨vs, h1, ras_ren hl h3⟩
  | dT ds l =>
    obtain ⟨vs, h1, h2, h3⟩ := h
    exact ⟨vs, h1, by simp [h2], ras_ren hl h3⟩
  | dK ds l =>
    obtain ⟨vs, h1, h2, h3⟩ := h
    exact ⟨vs, h1, by simp [h2], ras_ren hl h3⟩
theorem ras_isD {μ' : List Addr} : ∀ {x : List AV} {v : List V}, RAs K W μ x v → x.all AV.isD = true → RAs K W μ' x v
  | [], _, h, _ => h
  | .d x :: l, _, ⟨v, r, e1, h, t⟩, q => ⟨v, r, e1, h, ras_isD t (by rw [List.all_cons, Bool.and_eq_true] at q; exact q.2)⟩
  | .m k :: l, _, ⟨v, r, e1, h, t⟩, q => by rw [List.all_cons, Bool.and_eq_true] at q; exact absurd q.1 Bool.false_ne_true
/-- what the callee is handed -/
theorem sim_sub (s : Sim K W μ M H) (nd : ks.Nodup) (hl : ∀ k ∈ ks, k < M.length) (hn : ks.all (fun k => (M.getD k (.lst [])).isD) = true) : Sim K W (subA μ ks) (subK M ks) H := by
  have hl' : ∀ k ∈ ks, k < μ.length := fun k h => by rw [s.len]; exact hl k h
  refine ⟨s.sub, ?_, by unfold subA subK; simp, fun a h => s.out a (subA_mem hl' h), fun i a o h1 h2 => ?_, s.tab, s.tw⟩
  · unfold subA
    refine List.pairwise_map.mpr (List.Pairwise.imp_of_mem (R := fun a b => a ≠ b) (fun {a b} ha hb h e => h ?_) nd)
    rw [List.getD, List.getD, List.getElem?_eq_getElem (hl' a ha), List.getElem?_eq_getElem (hl' b hb)] at e
    exact (List.getElem_inj s.nd).mp e
  · have hi : i < ks.length := by
      have := (List.getElem?_eq_some_iff.mp h1).1
      unfold subA at this
      simpa using this
    have hk : ks[i]? = some ks[i] := List.getElem?_eq_getElem hi
    have hm := List.getElem_mem hi
    rw [subA_get hk (hl' _ hm)] at h1
    unfold subK at h2
    rw [List.getElem?_map, hk] at h2
    simp only [Option.map_some, Option.some.injEq] at h2
    rw [List.getD, List.getElem?_eq_getElem (hl _ hm)] at h2
    simp only [Option.getD_some] at h2
    have q := s.ob _ a o h1 (by rw [List.getElem?_eq_getElem (hl _ hm), h2])
    cases o with
    | lst l => exact q
    | ins C ns l =>
      have z := List.all_eq_true.mp hn _ hm
      rw [List.getD, List.getElem?_eq_getElem (hl _ hm)] at z
      simp only [Option.getD_some] at z
      rw [h2] at z
      obtain ⟨dx, vs, e1, e2, e3⟩ := q
      exact ⟨dx, vs, e1, e2, ras_isD e3 z⟩
    | ls l =>
      have z := List.all_eq_true.mp hn _ hm
      rw [List.getD, List.getElem?_eq_getElem (hl _ hm)] at z
      simp only [Option.getD_some] at z
      rw [h2] at z
      obtain ⟨vs, e1, e3⟩ := q
      exact ⟨vs, e1, ras_isD e3 z⟩
    | dT ds l =>
      have z := List.all_eq_true.mp hn _ hm
      rw [List.getD, List.getElem?_eq_getElem (hl _ hm)] at z
      simp only [Option.getD_some] at z
      rw [h2] at z
      obtain ⟨vs, e1, e2, e3⟩ := q
      exact ⟨vs, e1, e2, ras_isD e3 z⟩
    | dK ds l =>
      have z := List.all_eq_true.mp hn _ hm
      rw [List.getD, List.getElem?_eq_getElem (hl _ hm)] at z
      simp only [Option.getD_some] at z
      rw [h2] at z
      obtain ⟨vs, e1, e2, e3⟩ := q
      exact ⟨vs, e1, e2, ras_isD e3 z⟩
/-- behind the callee -/
theorem go_call {M2a M2b : List MO} (o : Ok B W μ H) (s : Sim K W μ M H) (nd : ks.Nodup) (hl : ∀ k ∈ ks, k < M.length) (h2 : M2a.length = ks.length) (f : Go ⟨W, subA μ ks, H⟩ K W (subA μ ks) W' μ' (M2a ++ M2b) H') :
    ∃ e, μ' = subA μ ks ++ e ∧ Go B K W μ W' (μ ++ e) (putK M ks (M2a.map (renO μ.length ks)) ++ M2b.map (renO μ.length ks)) H' := by
  have hl' : ∀ k ∈ ks, k < μ.length := fun k h => by rw [s.len]; exact hl k h
  have sl : (subA μ ks).length = ks.length := by unfold subA; simp
  obtain ⟨e, he⟩ := f.mext
  obtain ⟨e', he', hfr⟩ := f.ok.pre
  have : e' = e := by
    have := he'.symm.trans he
    exact List.append_cancel_left this
  subst this
  have hnd := f.sim.nd
  rw [he] at hnd
  have fresh : ∀ a ∈ μ, a ∉ e' := fun a ha h => by
    obtain ⟨u, hu⟩ := s.live ha
    have hz : H a = none := hfr a h
    rw [hz] at hu; cases hu
  refine ⟨e', he, o.trans (fun a h => subA_mem hl' h) f.ok he, ⟨f.sim.sub, ?_, ?_, fun a h => ?_, fun j a ob h1 hob => ?_, f.sim.tab, f.sim.tw⟩, f.wext, ⟨e', rfl⟩⟩
  · exact List.nodup_append.mpr ⟨s.nd, (List.nodup_append.mp hnd).2.1, fun a ha b hb z => fresh a ha (z ▸ hb)⟩
  · have := f.sim.len
    rw [he] at this
    simp [putK_len] at this ⊢
    rw [sl] at this
    rw [s.len]
    omega
  · rcases List.mem_append.mp h with h | h
    · cases q : W' a with
      | none => rfl
      | some u =>
        rcases f.ok.wnew a u q with z | z | z
        · have z : W a = some u := z
          rw [s.out a h] at z; cases z
        · obtain ⟨v, hv⟩ := s.live h
          have z : H a = none := z
          rw [z] at hv; cases hv
        · obtain ⟨v, hv⟩ := s.live h
          by_cases hm : a ∈ subA μ ks
          · have z2 := f.sim.out a (by rw [he]; exact List.mem_append_left _ hm)
            rw [z2] at q; cases q
          · have e1 : H' a = some v := f.ok.fr a v hv hm (s.plain h hv).1
            have e2 := f.sim.sub a u q
            rw [e1] at e2; cases e2
            exact absurd (s.plain h hv) z
    · exact f.sim.out a (by rw [he]; exact List.mem_append_right _ h)
  · rw [List.getElem?_append, putK_len] at hob
    rw [List.getElem?_append] at h1
    by_cases hj : j < M.length
    · rw [if_pos hj] at hob
      rw [if_pos (by rw [s.len]; exact hj)] at h1
      by_cases hk : j ∈ ks
      · obtain ⟨i, hi, hij⟩ := List.getElem_of_mem hk
        have hi' : ks[i]? = some j := by rw [← hij]; exact List.getElem?_eq_getElem hi
        have q := putK_in M ks (M2a.map (renO μ.length ks)) i j ob nd hl hi' hob (by simp [h2])
        rw [List.getElem?_map] at q
        cases e2 : M2a[i]? with
        | none => rw [e2] at q; cases q
        | some ob' =>
          rw [e2] at q
          simp only [Option.map_some, Option.some.injEq] at q
          subst q
          have z := f.sim.ob i a ob' (by rw [he, List.getElem?_append_left (by rw [sl]; exact hi), subA_get hi' (by rw [s.len]; exact hj)]; exact h1) (by rw [List.getElem?_append_left (by omega)]; exact e2)
          rw [he] at z
          exact or_ren hl' z
      · rw [putK_out _ _ _ _ hk] at hob
        have nm : a ∉ subA μ ks := fun hm => by
          unfold subA at hm
          obtain ⟨k, hk1, hk2⟩ := List.mem_map.mp hm
          rw [List.getD, List.getElem?_eq_getElem (hl' k hk1)] at hk2
          obtain ⟨l1, q1⟩ := List.getElem?_eq_some_iff.mp h1
          have : k = j := (List.getElem_inj s.nd).mp (hk2.trans q1.symm)
          exact hk (this ▸ hk1)
        exact (s.ob j a ob h1 hob).mono f.wext fun u hu => f.ok.fr a u hu nm ((s.ob j a ob h1 hob).plain hu).1
    · rw [if_neg hj] at hob
      rw [if_neg (by rw [s.len]; exact hj)] at h1
      rw [List.getElem?_map] at hob
      cases e2 : M2b[j - M.length]? with
      | none => rw [e2] at hob; cases hob
      | some ob' =>
        rw [e2] at hob
        simp only [Option.map_some, Option.some.injEq] at hob
        subst hob
        have z := f.sim.ob (ks.length + (j - M.length)) a ob' (by rw [he, List.getElem?_append_right (by rw [sl]; omega), sl, Nat.add_sub_cancel_left, ← s.len]; exact h1)
          (by rw [List.getElem?_append_right (by omega), h2, Nat.add_sub_cancel_left]; exact e2)
        rw [he] at z
        exact or_ren hl' z
/-- the callee's wish, from the caller's: asp of the handed part; xs' the arguments by the callee's numbers -/
def Sent (asp : ASp) (xs : List AV) (M : List MO) (Φ : AV → List MO → Prop) (Ψ : Exc → List MO → Prop) : Prop :=
  ∃ (ks : List Nat) (xs' : List AV), ks.Nodup ∧ ks.all (fun k => decide (k < M.length)) = true ∧ ks.all (fun k => (M.getD k (.lst [])).isD) = true ∧ xs = xs'.map (renV M.length ks) ∧ xs'.all (AV.below ks.length) = true ∧
    asp xs' (subK M ks) (fun x M' => ∃ Ma Mb, M' = Ma ++ Mb ∧ Ma.length = ks.length ∧ Φ (renV M.length ks x) (putK M ks (Ma.map (renO M.length ks)) ++ Mb.map (renO M.length ks)))
      (fun x M' => ∃ Ma Mb, M' = Ma ++ Mb ∧ Ma.length = ks.length ∧ Ψ x (putK M ks (Ma.map (renO M.length ks)) ++ Mb.map (renO M.length ks)))
theorem ras_back (hl : ∀ k ∈ ks, k < μ.length) : ∀ {xs : List AV} {vs : List V}, (∀ j, AV.m j ∈ xs → j < ks.length) → RAs K W μ (xs.map (renV μ.length ks)) vs → RAs K W (subA μ ks) xs vs
  | [], _, _, h => h
  | x :: l, _, hx, ⟨v, r, e1, h, t⟩ => ⟨v, r, e1, by
      cases x with
      | d x => exact h
      | m j =>
        have hj := hx j List.mem_cons_self
        obtain ⟨a, h1, h2⟩ := h
        have hk : ks[j]? = some (ks.getD j 0) := by rw [List.getD, List.getElem?_eq_getElem hj]; rfl
        rw [if_pos hj] at h1
        refine ⟨a, ?_, h2⟩
        rw [subA_get hk (hl _ (List.mem_of_getElem? hk))]
        exact h1, ras_back hl (fun j hj => hx j (List.mem_cons_of_mem _ hj)) t⟩
theorem sent_run {asp : ASp} (mono : Mono asp) {xs : List AV} {vs : List V} {Φ : AV → List MO → Prop} {Ψ : Exc → List MO → Prop} {Q : VK} {E : XK} (o : Ok B W μ H) (s : Sim K W μ M H) (r : RAs K W μ xs vs) (h : Sent asp xs M Φ Ψ)
    (q : ∀ z M' W' μ' H' v, Φ z M' → Go B K W μ W' μ' M' H' → RA K W' μ' z v → Q v H') (qe : EFits B K Ψ E) : conc K asp vs H Q E := by
  obtain ⟨ks, xs', nd, hl, hn, rfl, hx, ha⟩ := h
  have hl : ∀ k ∈ ks, k < M.length := fun k hk => of_decide_eq_true (List.all_eq_true.mp hl k hk)
  have hx : ∀ j, AV.m j ∈ xs' → j < ks.length := fun j hj => of_decide_eq_true (List.all_eq_true.mp hx _ hj)
  have hl' : ∀ k ∈ ks, k < μ.length := fun k h => by rw [s.len]; exact hl k h
  refine ⟨W, subA μ ks, subK M ks, xs', sim_sub s nd hl hn, ras_back hl' hx (by rw [s.len]; exact r), mono _ _ _ _ _ _ (fun x M' ⟨Ma, Mb, e, h2, p⟩ W' μ' H' v f rv => ?_) (fun x M' ⟨Ma, Mb, e, h2, p⟩ W' μ' H' cls d f rx => ?_) ha⟩
  · subst e
    obtain ⟨e', he, f2⟩ := go_call o s nd hl h2 f
    subst he
    rw [s.len] at f2
    exact q _ _ _ _ _ _ p f2 (by rw [← s.len]; exact ra_ren hl' rv)
  · subst e
    obtain ⟨e', he, f2⟩ := go_call o s nd hl h2 f
    subst he
    rw [s.len] at f2
    exact qe _ _ _ _ _ _ _ p f2.ok f2.sim rx
variable {σ : AEnv} {Φ : AV → List MO → Prop} {ta : TA}
/-- f(..) -/
theorem ae_call {asp : ASp} {dvs : List V} {das : List AV} {E : XK} {Ψ : Exc → List MO → Prop} (mono : Mono asp) (qe : EFits B K Ψ E) (hd : ∀ W μ, RAs K W μ das dvs) (h : AA B K ta σ M fun xs M1 => Sent asp (xs ++ das) M1 Φ Ψ) : AE B K (tCall (conc K asp) dvs E ta) σ M Φ := fun W μ H τ o s e Q q =>
  h W μ H τ o s e _ fun xs M1 W1 μ1 H1 vs p f1 r1 => sent_run mono f1.ok f1.sim (RAs.append r1 (hd _ _)) p (fun z M' W' μ' H' v p2 f2 r2 => q _ _ _ _ _ _ p2 (f1.trans f2) r2) qe
theorem efits_none {E : XK} : EFits B K (fun _ _ => False) E := fun _ _ _ _ _ _ _ h => h.elim
end
end Al
namespace Al
open PySem L2
variable [Al.TabList]
section
variable {B : Base} {K : PySem.W.Frag} {σ : AEnv} {M : List MO} {ta tb te : TE} {x y : AV}
section
variable {Φ : Bool → List MO → Prop} {t u : TT}
theorem at_test (h : AE B K te σ M fun x M1 => ∃ b, x = .d (.bl b) ∧ Φ b M1) : AT B K (tTest te) σ M Φ := fun W μ H τ o s e Q q =>
  h W μ H τ o s e _ fun x M1 W1 μ1 H1 v ⟨b, e1, p⟩ f1 r1 => by subst e1; exact ⟨b, r1, q _ _ _ _ _ p f1⟩
theorem at_b (h : AE B K te σ M fun x M1 => ∃ b, x = .d (.bl b) ∧ Φ b M1) : AT B K (tB te) σ M Φ := fun W μ H τ o s e Q q =>
  h W μ H τ o s e _ fun x M1 W1 μ1 H1 v ⟨b, e1, p⟩ f1 r1 => by subst e1; exact ⟨b, r1, q _ _ _ _ _ p f1⟩
theorem at_and (h : AT B K t σ M fun b M1 => (b = true → AT B K u σ M1 Φ) ∧ (b = false → Φ false M1)) : AT B K (tAnd t u) σ M Φ := fun W μ H τ o s e Q q =>
  h W μ H τ o s e _ fun b M1 W1 μ1 H1 ⟨p1, p2⟩ f1 => by
    cases b with
    | true => exact iteT (p1 rfl W1 μ1 H1 τ f1.ok f1.sim (f1.re e) _ fun b M2 W2 μ2 H2 p f2 => q _ _ _ _ _ p (f1.trans f2))
    | false => exact iteF (q _ _ _ _ _ (p2 rfl) f1)
theorem at_or (h : AT B K t σ M fun b M1 => (b = true → Φ true M1) ∧ (b = false → AT B K u σ M1 Φ)) : AT B K (tOr t u) σ M Φ := fun W μ H τ o s e Q q =>
  h W μ H τ o s e _ fun b M1 W1 μ1 H1 ⟨p1, p2⟩ f1 => by
    cases b with
    | false => exact iteF (p2 rfl W1 μ1 H1 τ f1.ok f1.sim (f1.re e) _ fun b M2 W2 μ2 H2 p f2 => q _ _ _ _ _ p (f1.trans f2))
    | true => exact iteT (q _ _ _ _ _ (p1 rfl) f1)
theorem at_not (h : AT B K t σ M fun b M1 => Φ (!b) M1) : AT B K (tNot t) σ M Φ := fun W μ H τ o s e Q q =>
  h W μ H τ o s e _ fun b M1 W1 μ1 H1 p f1 => q _ _ _ _ _ p f1
theorem AT.imp {Φ' : Bool → List MO → Prop} (h : AT B K t σ M Φ) (f : ∀ x M', Φ x M' → Φ' x M') : AT B K t σ M Φ' := fun W μ H τ o s e Q q =>
  h W μ H τ o s e Q fun x M' W' μ' H' p fi => q x M' W' μ' H' (f _ _ p) fi
end
section
variable {Φ : AV → List MO → Prop} {t : TT}
theorem ae_if (h : AT B K t σ M fun b M1 => (b = true → AE B K ta σ M1 Φ) ∧ (b = false → AE B K tb σ M1 Φ)) : AE B K (tIf t ta tb) σ M Φ := fun W μ H τ o s e Q q =>
  h W μ H τ o s e _ fun b M1 W1 μ1 H1 ⟨p1, p2⟩ f1 => by
    cases b with
    | true => exact iteT (p1 rfl W1 μ1 H1 τ f1.ok f1.sim (f1.re e) _ fun b M2 W2 μ2 H2 v p f2 r => q _ _ _ _ _ _ p (f1.trans f2) r)
    | false => exact iteF (p2 rfl W1 μ1 H1 τ f1.ok f1.sim (f1.re e) _ fun b M2 W2 μ2 H2 v p f2 r => q _ _ _ _ _ _ p (f1.trans f2) r)
theorem ae_andV (h : AE B K ta σ M fun x M1 => ∃ b, x = .d (.bl b) ∧ (b = true → AE B K tb σ M1 Φ) ∧ (b = false → Φ (.d (.bl false)) M1)) : AE B K (tAndV ta tb) σ M Φ := fun W μ H τ o s e Q q =>
  h W μ H τ o s e _ fun x M1 W1 μ1 H1 v ⟨b, e1, p1, p2⟩ f1 r1 => by
    subst e1
    refine ⟨b, r1, ?_⟩
    cases b with
    | true => exact iteT (p1 rfl W1 μ1 H1 τ f1.ok f1.sim (f1.re e) _ fun b M2 W2 μ2 H2 v p f2 r => q _ _ _ _ _ _ p (f1.trans f2) r)
    | false => exact iteF (q _ _ _ _ _ _ (p2 rfl) f1 rfl)
theorem ae_orV (h : AE B K ta σ M fun x M1 => ∃ b, x = .d (.bl b) ∧ (b = true → Φ (.d (.bl true)) M1) ∧ (b = false → AE B K tb σ M1 Φ)) : AE B K (tOrV ta tb) σ M Φ := fun W μ H τ o s e Q q =>
  h W μ H τ o s e _ fun x M1 W1 μ1 H1 v ⟨b, e1, p1, p2⟩ f1 r1 => by
    subst e1
    refine ⟨b, r1, ?_⟩
    cases b with
    | false => exact iteF (p2 rfl W1 μ1 H1 τ f1.ok f1.sim (f1.re e) _ fun b M2 W2 μ2 H2 v p f2 r => q _ _ _ _ _ _ p (f1.trans f2) r)
    | true => exact iteT (q _ _ _ _ _ _ (p1 rfl) f1 rfl)
theorem ae_notV (h : AE B K ta σ M fun x M1 => ∃ b, x = .d (.bl b) ∧ Φ (.d (.bl (!b))) M1) : AE B K (tNotV ta) σ M Φ := fun W μ H τ o s e Q q =>
  h W μ H τ o s e _ fun x M1 W1 μ1 H1 v ⟨b, e1, p1⟩ f1 r1 => by
    subst e1
    exact ⟨b, r1, q _ _ _ _ _ _ p1 f1 rfl⟩
theorem ae_chain {r r' : R2} {tc : TE} (h : AE B K ta σ M fun x M1 => AE B K tb σ M1 fun y M2 => AR B K r x y M2 fun z M3 => ∃ b, z = .d (.bl b) ∧ (b = true → AE B K tc σ M3 fun w M4 => AR B K r' y w M4 Φ) ∧ (b = false → Φ (.d (.bl false)) M3)) : AE B K (tChain r r' ta tb tc) σ M Φ := fun W μ H τ o s e Q q =>
  h W μ H τ o s e _ fun x M1 W1 μ1 H1 v p f1 r1 => p W1 μ1 H1 τ f1.ok f1.sim (f1.re e) _ fun y M2 W2 μ2 H2 w p2 f2 r2 =>
    p2 W2 μ2 H2 v w f2.ok f2.sim (f2.ra r1) r2 _ fun z M3 W3 μ3 H3 v3 ⟨b, e3, p3, p4⟩ f3 r3 => by
      subst e3
      refine ⟨b, r3, ?_⟩
      have f13 := (f1.trans f2).trans f3
      cases b with
      | true => exact iteT (p3 rfl W3 μ3 H3 τ f3.ok f3.sim (f13.re e) _ fun w4 M4 W4 μ4 H4 v4 p4 f4 r4 => p4 W4 μ4 H4 w v4 f4.ok f4.sim ((f3.trans f4).ra r2) r4 _ fun z5 M5 W5 μ5 H5 v5 p5 f5 r5 => q _ _ _ _ _ _ p5 ((f13.trans f4).trans f5) r5)
      | false => exact iteF (q _ _ _ _ _ _ (p4 rfl) f13 rfl)
end
section
variable {Φ : AEnv → List MO → Prop} {g : TG}
theorem ag_name {i : Nat} (k : Φ (σ.set i (some x)) M) : AG B K (gName i) x σ M Φ := fun W μ H τ v o s e r Q q => q _ _ _ _ _ _ k (.refl o s) (e.set r i)
theorem ags_nil (k : Φ σ M) : AGs B K gNil [] σ M Φ := fun W μ H τ v o s e r Q q => ⟨r, q _ _ _ _ _ _ k (.refl o s) e⟩
theorem ags_cons {gs : TGs} {xs : List AV} (h : AG B K g x σ M fun σ1 M1 => AGs B K gs xs σ1 M1 Φ) : AGs B K (gCons g gs) (x :: xs) σ M Φ := fun W μ H τ v o s e r Q q => by
  obtain ⟨a, b, rfl, r1, r2⟩ := r
  exact ⟨a, b, rfl, h W μ H τ a o s e r1 _ fun σ1 M1 W1 μ1 H1 τ1 p f1 e1 => p W1 μ1 H1 τ1 b f1.ok f1.sim e1 (f1.ras r2) _ fun σ2 M2 W2 μ2 H2 τ2 p2 f2 e2 => q _ _ _ _ _ _ p2 (f1.trans f2) e2⟩
theorem ras_ds {W : Hp} {μ : List Addr} : ∀ {l : List D} {vs : List V}, RDs K W l vs → RAs K W μ (l.map AV.d) vs
  | [], _, h => h
  | d :: l, _, ⟨v, r, e1, h, t⟩ => ⟨v, r, e1, h, ras_ds t⟩
theorem ag_tup {n : Nat} {gs : TGs} {ds : List D} (hn : ds.length = n) (h : AGs B K gs (ds.map AV.d) σ M Φ) : AG B K (gTup K n gs) (.d (.tup ds)) σ M Φ := fun W μ H τ v o s e r Q q => by
  obtain ⟨a, vs, rfl, h1, h2⟩ := r
  exact ⟨a, vs, rfl, sqt_mono s.sub h1, by rw [← h2.length]; exact hn, h W μ H τ vs o s e (ras_ds h2) Q q⟩
/-- o[i] = x, o a mutable list -/
theorem ag_sub {to ti : TE} (h : AE B K to σ M fun o M1 => AE B K ti σ M1 fun i M2 => ∃ k z l j d, o = .m k ∧ i = .d (.int z) ∧ M2[k]? = some (.lst l) ∧ ixN l.length z = some j ∧ x = .d d ∧ Φ σ (M2.set k (.lst (l.set j d)))) : AG B K (gSub to ti rSetL) x σ M Φ := fun W μ H τ v o s e r Q q =>
  h W μ H τ o s e _ fun y M1 W1 μ1 H1 w p f1 r1 => p W1 μ1 H1 τ f1.ok f1.sim (f1.re e) _ fun i M2 W2 μ2 H2 u ⟨k, z, l, j, d, e1, e2, e3, e4, e5, p2⟩ f2 r2 => by
    subst e1; subst e2; subst e5
    obtain ⟨a, h1, h2⟩ := f2.ra r1
    subst h2
    cases r2
    obtain ⟨vs, h3, h4⟩ := f2.sim.ob k a _ h1 e3
    have r3 := (f1.trans f2).ra r
    refine ⟨a, vs, z, j, rfl, rfl, h3, by rw [← h4.length]; exact e4, ?_⟩
    have f3 := go_set (mo := .lst (l.set j d)) (u := .lst (vs.set j v)) f2.ok f2.sim h1 ⟨_, upd_same, RDs.set r3 j h4⟩
    exact q _ _ _ _ _ _ p2 ((f1.trans f2).trans f3) (((f1.trans f2).trans f3).re e)
end
section
variable {Φ : AEnds} {t u : TS} {g : TG}
theorem as_seq (h : AS B K t σ M { Φ with nx := fun σ1 M1 => AS B K u σ1 M1 Φ }) : AS B K (tSeq t u) σ M Φ := fun W μ H τ o s e E f =>
  h W μ H τ o s e _ ⟨fun σ1 M1 W1 μ1 H1 τ1 p g r => p W1 μ1 H1 τ1 g.ok g.sim r E (f.mono g), f.rt, f.bk, f.ct⟩
theorem as_next (k : Φ.nx σ M) : AS B K tNext σ M Φ := fun W μ H τ o s e E f => f.nx _ _ _ _ _ _ k (.refl o s) e
theorem as_asg (h : AE B K te σ M fun x M1 => AG B K g x σ M1 Φ.nx) : AS B K (tAsg te g) σ M Φ := fun W μ H τ o s e E f =>
  h W μ H τ o s e _ fun x M1 W1 μ1 H1 v p f1 r1 => p W1 μ1 H1 τ v f1.ok f1.sim (f1.re e) r1 _ fun σ2 M2 W2 μ2 H2 τ2 p2 f2 e2 => f.nx _ _ _ _ _ _ p2 (f1.trans f2) e2
theorem as_par {i j : Nat} {ta : TA} (h : AA B K ta σ M fun xs M1 => ∃ x y, xs = [x, y] ∧ Φ.nx ((σ.set i (some x)).set j (some y)) M1) : AS B K (tPar i j ta) σ M Φ := fun W μ H τ o s e E f =>
  h W μ H τ o s e _ fun xs M1 W1 μ1 H1 vs ⟨x, y, e1, p⟩ f1 r1 => by
    subst e1
    obtain ⟨v, r, rfl, r2, w, r', rfl, r3, r4⟩ := r1
    cases r4
    exact ⟨v, w, rfl, f.nx _ _ _ _ _ _ p f1 (((f1.re e).set r2 i).set r3 j)⟩
theorem as_drop (h : AE B K te σ M fun _ M1 => Φ.nx σ M1) : AS B K (tDrop te) σ M Φ := fun W μ H τ o s e E f =>
  h W μ H τ o s e _ fun x M1 W1 μ1 H1 v p f1 r1 => f.nx _ _ _ _ _ _ p f1 (f1.re e)
theorem as_ret (h : AE B K te σ M Φ.rt) : AS B K (tRet te) σ M Φ := fun W μ H τ o s e E f =>
  h W μ H τ o s e _ fun x M1 W1 μ1 H1 v p f1 r1 => f.rt _ _ _ _ _ _ p (.base f1.ok f1.sim) r1
theorem as_if {c : TT} (h : AT B K c σ M fun b M1 => (b = true → AS B K t σ M1 Φ) ∧ (b = false → AS B K u σ M1 Φ)) : AS B K (tIfS c t u) σ M Φ := fun W μ H τ o s e E f =>
  h W μ H τ o s e _ fun b M1 W1 μ1 H1 ⟨p1, p2⟩ f1 => by
    cases b with
    | true => exact iteT (p1 rfl W1 μ1 H1 τ f1.ok f1.sim (f1.re e) E (f.mono f1))
    | false => exact iteF (p2 rfl W1 μ1 H1 τ f1.ok f1.sim (f1.re e) E (f.mono f1))
theorem AS.imp {Φ' : AEnds} (h : AS B K t σ M Φ) (f1 : ∀ σ M, Φ.nx σ M → Φ'.nx σ M) (f2 : ∀ σ M, Φ.rt σ M → Φ'.rt σ M) (f3 : ∀ σ M, Φ.bk σ M → Φ'.bk σ M) (f4 : ∀ σ M, Φ.ct σ M → Φ'.ct σ M) : AS B K t σ M Φ' := fun W μ H τ o s e E f =>
  h W μ H τ o s e E ⟨fun σ M W μ H τ p => f.nx σ M W μ H τ (f1 _ _ p), fun σ M W μ H τ p => f.rt σ M W μ H τ (f2 _ _ p), fun σ M W μ H τ p => f.bk σ M W μ H τ (f3 _ _ p), fun σ M W μ H τ p => f.ct σ M W μ H τ (f4 _ _ p)⟩
/-- self.f = e, self a mutable instance -/
theorem as_fld {to : TE} {f : Str} (h : AE B K te σ M fun y M1 => AE B K to σ M1 fun z M2 => ∃ k C ns l, z = .m k ∧ M2[k]? = some (.ins C ns l) ∧ Cls K C ∧ NoAttr K C f ∧ f ∉ ns ∧ ns.length < 1000 ∧ Φ.nx σ (M2.set k (.ins C (ns ++ [f]) (l ++ [y])))) : AS B K (sFld K to te f) σ M Φ := fun W μ H τ o s e E ff =>
  h W μ H τ o s e _ fun y M1 W1 μ1 H1 w p f1 r1 => p W1 μ1 H1 τ f1.ok f1.sim (f1.re e) _ fun z M2 W2 μ2 H2 u ⟨k, C, ns, l, e1, e2, c1, c2, c3, c4, p2⟩ f2 r2 => by
    subst e1
    obtain ⟨a, h1, rfl⟩ := r2
    obtain ⟨dx, vs, h3, h4, h5⟩ := f2.sim.ob k a _ h1 e2
    have hl : ns.length = vs.length := h4.trans h5.length
    have pz : ∀ (ns : List Str) (vs : List V), ns.length = vs.length → f ∉ ns → putF f w (ns.zip vs) = (ns ++ [f]).zip (vs ++ [w]) := by
      intro ns
      induction ns with
      | nil => intro vs h _; cases vs with
        | nil => rfl
        | cons _ _ => cases h
      | cons a ns ih => intro vs h hf; cases vs with
        | nil => cases h
        | cons v vs =>
          show (if a = f then _ else (a, v) :: putF f w (ns.zip vs)) = (a, v) :: (ns ++ [f]).zip (vs ++ [w])
          rw [if_neg (fun z => hf (by rw [z]; exact List.mem_cons_self)), ih vs (by simpa using h) (fun z => hf (List.mem_cons_of_mem _ z))]
    refine ⟨a, C, dx, ns.zip vs, rfl, h3, c1, c2, by rw [List.length_zip, ← hl, Nat.min_self]; exact c4, ?_⟩
    rw [pz ns vs hl c3]
    have f3 := go_set (mo := .ins C (ns ++ [f]) (l ++ [y])) (u := .ins C dx ((ns ++ [f]).zip (vs ++ [w]))) f2.ok f2.sim h1 ⟨dx, _, upd_same, by simp [h4], RAs.append h5 ⟨w, [], rfl, f2.ra r1, rfl⟩⟩
    exact ff.nx _ _ _ _ _ _ p2 ((f1.trans f2).trans f3) (((f1.trans f2).trans f3).re e)
end
theorem lookup_zip {W : Hp} {f : Str} {x : AV} {μ : List Addr} : ∀ {ns : List Str} {l : List AV} {vs : List V}, RAs K W μ l vs → (ns.zip l).lookup f = some x → ∃ v, (ns.zip vs).lookup f = some v ∧ RA K W μ x v
  | [], _, _, _, h => by cases h
  | n :: ns, [], _, _, h => by cases h
  | n :: ns, y :: l, _, ⟨v, r, e1, h1, h2⟩, h => by
    subst e1
    rw [List.zip_cons_cons, List.lookup_cons] at h ⊢
    cases e : (f == n) with
    | true => rw [e] at h; cases h; exact ⟨v, rfl, h1⟩
    | false => rw [e] at h; exact lookup_zip h2 h
theorem lookup_zipD {f : Str} {d : D} : ∀ {ns : List Str} {l : List D}, (ns.zip l).lookup f = some d → (ns.zip (l.map AV.d)).lookup f = some (.d d)
  | [], _, h => by cases h
  | n :: ns, [], h => by cases h
  | n :: ns, y :: l, h => by
    rw [List.map_cons, List.zip_cons_cons, List.lookup_cons] at *
    cases e : (f == n) with
    | true => rw [e] at h; cases h; rfl
    | false => rw [e] at h; exact lookup_zipD h
theorem ae_fld {Φ : AV → List MO → Prop} {f : Str} (h : AE B K ta σ M fun z M1 => ∃ C ns l d, z = .d (.ins C ns l) ∧ Cls K C ∧ NoAttr K C f ∧ (ns.zip l).lookup f = some d ∧ Φ (.d d) M1) : AE B K (tFld K ta f) σ M Φ := fun W μ H τ o s e Q q =>
  h W μ H τ o s e _ fun z M1 W1 μ1 H1 v ⟨C, ns, l, d, e1, c1, c2, hl, p⟩ f1 r1 => by
    subst e1
    obtain ⟨a, dx, vs, rfl, h1, h2, h3⟩ := r1
    obtain ⟨w, hw, rw_⟩ := lookup_zip (μ := μ1) (ras_ds h3) (lookup_zipD hl)
    exact ⟨a, C, dx, _, w, rfl, f1.sim.sub _ _ h1, c1, c2, hw, q _ _ _ _ _ _ p f1 rw_⟩
end
end Al
namespace Al
open PySem PyProof.Rows L2
variable [Al.TabList]
def cutV1 (n : Nat) : Option AV → Option AV
  | some (.d x) => some (.d x)
  | some (.m k) => if k < n then some (.m k) else none
  | none => none
def cutE (n : Nat) (σ : AEnv) : AEnv := σ.map (cutV1 n)
/-- a mutable object that stands at the return, as data -/
inductive Froz (n : Nat) (M : List MO) : AV → AV → Prop
  | dat {x : D} : Froz n M (.d x) (.d x)
  | low {k : Nat} (h : k < n) : Froz n M (.m k) (.m k)
  | lst {k : Nat} {l : List D} (hn : n ≤ k) (h : M[k]? = some (.lst l)) : Froz n M (.m k) (.d (.lst l))
  | ins {k : Nat} {C : Addr} {ns : List Str} {l : List D} (hn : n ≤ k) (h : M[k]? = some (.ins C ns (l.map AV.d))) : Froz n M (.m k) (.d (.ins C ns l))
  | lls {k : Nat} {js : List Nat} {ls : List (List D)} (hn : n ≤ k) (h : M[k]? = some (.ls (js.map AV.m))) (hl : js.length = ls.length) (hj : ∀ (i j : Nat) (l : List D), js[i]? = some j → ls[i]? = some l → n ≤ j ∧ M[j]? = some (.lst l)) : Froz n M (.m k) (.d (.lst (ls.map D.lst)))
section
variable {B : Base} {K : PySem.W.Frag} {σ : AEnv} {M : List MO} {W W1 H : Hp} {μ μ1 : List Addr}
theorem ra_below {n : Nat} {x : AV} {v : V} (h : RA K W μ x v) (hb : x.below n = true) : RA K W (μ.take n) x v := by
  cases x with
  | d x => exact h
  | m k =>
    obtain ⟨a, h1, h2⟩ := h
    have hk : k < n := by unfold AV.below at hb; exact of_decide_eq_true hb
    exact ⟨a, by rw [List.getElem?_take]; rw [if_pos hk]; exact h1, h2⟩
theorem ras_below {n : Nat} : ∀ {x : List AV} {v : List V}, RAs K W μ x v → x.all (AV.below n) = true → RAs K W (μ.take n) x v
  | [], _, h, _ => h
  | d :: l, _, ⟨v, r, e1, h, t⟩, hb => by
    rw [List.all_cons, Bool.and_eq_true] at hb
    exact ⟨v, r, e1, ra_below h hb.1, ras_below t hb.2⟩
theorem go_cut {n : Nat} (g : Go B K W1 μ1 W μ M H) (hn : μ1.length ≤ n) (h1 : B.μ0.length ≤ n) (hb : ∀ o ∈ M.take n, o.below n = true) : Go B K W1 μ1 W (μ.take n) (M.take n) H := by
  obtain ⟨ext, e1, e2⟩ := g.ok.pre
  obtain ⟨e, he⟩ := g.mext
  refine ⟨⟨g.ok.wsub, g.ok.wnew, g.ok.fr, ⟨ext.take (n - B.μ0.length), ?_, fun a ha => e2 a (List.mem_of_mem_take ha)⟩, g.ok.live⟩, ⟨g.sim.sub, g.sim.nd.sublist (List.take_sublist _ _), by rw [List.length_take, List.length_take, g.sim.len], fun a h => g.sim.out a (List.mem_of_mem_take h), fun k a o q1 q2 => ?_, g.sim.tab, g.sim.tw⟩, g.wext, ⟨e.take (n - μ1.length), ?_⟩⟩
  · rw [e1, List.take_append, List.take_of_length_le h1]
  · have hm := hb o (List.mem_of_getElem? q2)
    rw [List.getElem?_take] at q1 q2
    by_cases hk : k < n
    · rw [if_pos hk] at q1 q2
      have q := g.sim.ob k a o q1 q2
      cases o with
      | lst l => exact q
      | ins C ns l =>
        obtain ⟨dx, vs, z1, z2, z3⟩ := q
        exact ⟨dx, vs, z1, z2, ras_below z3 hm⟩
      | ls l =>
        obtain ⟨vs, z1, z3⟩ := q
        exact ⟨vs, z1, ras_below z3 hm⟩
      | dT ks l =>
        obtain ⟨vs, z1, z2, z3⟩ := q
        exact ⟨vs, z1, z2, ras_below z3 hm⟩
      | dK ks l =>
        obtain ⟨vs, z1, z2, z3⟩ := q
        exact ⟨vs, z1, z2, ras_below z3 hm⟩
    · rw [if_neg hk] at q1; cases q1
  · rw [he, List.take_append, List.take_of_length_le hn]
theorem re_cut {n : Nat} {τ : L2.St} (h : RE K W μ σ τ) : RE K W (μ.take n) (cutE n σ) τ := by
  refine ⟨by unfold cutE; simp [h.1], fun i x q => ?_⟩
  unfold cutE at q
  rw [List.getElem?_map] at q
  cases e : σ[i]? with
  | none => rw [e] at q; cases q
  | some y =>
    rw [e] at q
    simp only [Option.map_some, Option.some.injEq] at q
    cases y with
    | none => cases q
    | some y =>
      obtain ⟨v, h1, h2⟩ := h.2 i y e
      cases y with
      | d z => cases q; exact ⟨v, h1, h2⟩
      | m k =>
        have q : (if k < n then some (AV.m k) else none) = some x := q
        by_cases hk : k < n
        · rw [if_pos hk] at q
          cases q
          exact ⟨v, h1, ra_below h2 (by unfold AV.below; exact decide_eq_true hk)⟩
        · rw [if_neg hk] at q; cases q
/-- P holds of what is left of the state -/
def Cut (n : Nat) (P : AEnv → List MO → Prop) : AEnv → List MO → Prop := fun σ M => (∀ o ∈ M.take n, o.below n = true) ∧ P (cutE n σ) (M.take n)
/-- a frozen object joins what never changes -/
theorem go_frz {n k : Nat} {a : Addr} {u : HO} (g : Go B K W1 μ1 W μ M H) (hn : μ1.length ≤ n) (h1 : B.μ0.length ≤ n) (hb : ∀ o ∈ M.take n, o.below n = true) (hk : n ≤ k) (ha : μ[k]? = some a) (hu : H a = some u) : Go B K W1 μ1 (upd W a u) (μ.take n) (M.take n) H := by
  have g2 := go_cut g hn h1 hb
  have wa : W a = none := g.sim.out a (List.mem_of_getElem? ha)
  have na : a ∉ μ.take n := fun h => by
    obtain ⟨j, hj, e⟩ := List.getElem_of_mem h
    obtain ⟨lk, ek⟩ := List.getElem?_eq_some_iff.mp ha
    rw [List.getElem_take] at e
    have hjn : j < n := by rw [List.length_take] at hj; omega
    have : j = k := (List.getElem_inj g.sim.nd).mp (e.trans ek.symm)
    omega
  have n0 : B.H0 a = none := by
    obtain ⟨ext, e1, e2⟩ := g.ok.pre
    refine e2 a ?_
    rw [e1, List.getElem?_append_right (by omega)] at ha
    exact List.mem_of_getElem? ha
  refine ⟨⟨g2.ok.wsub.trans (same_upd wa), fun b o h => ?_, g2.ok.fr, g2.ok.pre, g2.ok.live⟩, ⟨fun b o h => ?_, g2.sim.nd, g2.sim.len, fun b h => ?_, fun j b o q1 q2 => ?_, g2.sim.tab, fun p hp => by rw [upd_ne (fun z => by obtain ⟨ps, h1, _⟩ := g2.sim.tab p hp; rw [z, hu] at h1; exact (g.sim.plain (List.mem_of_getElem? ha) hu).1 _ (Option.some.inj h1))]; exact g2.sim.tw p hp⟩, g2.wext.trans (same_upd wa), g2.mext⟩
  · by_cases e : b = a
    · subst e; exact .inr (.inl n0)
    · rw [upd_ne e] at h; exact g2.ok.wnew b o h
  · by_cases e : b = a
    · subst e; rw [upd_same] at h; cases h; exact hu
    · rw [upd_ne e] at h; exact g2.sim.sub b o h
  · have : b ≠ a := fun e => na (e ▸ h)
    rw [upd_ne this]; exact g2.sim.out b h
  · have q := (g2.sim.ob j b o q1 q2).mono (μ' := []) (same_upd (o := u) wa) (H' := H) (fun w e => e)
    rwa [List.append_nil] at q
/-- some frozen objects at once -/
theorem go_frzL {n : Nat} {as : List Addr} (g : Go B K W1 μ1 W μ M H) (hn : μ1.length ≤ n) (h1 : B.μ0.length ≤ n) (hb : ∀ o ∈ M.take n, o.below n = true) (has : ∀ a ∈ as, ∃ k : Nat, n ≤ k ∧ μ[k]? = some a) :
    Go B K W1 μ1 (fun b => if b ∈ as then H b else W b) (μ.take n) (M.take n) H ∧ Same W (fun b => if b ∈ as then H b else W b) := by
  have g2 := go_cut g hn h1 hb
  have wa : ∀ a ∈ as, W a = none := fun a ha => by
    obtain ⟨k, _, e⟩ := has a ha
    exact g.sim.out a (List.mem_of_getElem? e)
  have sm : Same W (fun b => if b ∈ as then H b else W b) := fun b o h => by
    show (if b ∈ as then H b else W b) = some o
    rw [if_neg (fun hm => by rw [wa b hm] at h; cases h)]
    exact h
  have na : ∀ a ∈ as, a ∉ μ.take n := fun a ha h => by
    obtain ⟨k, hk, e0⟩ := has a ha
    obtain ⟨j, hj, e⟩ := List.getElem_of_mem h
    obtain ⟨lk, ek⟩ := List.getElem?_eq_some_iff.mp e0
    rw [List.getElem_take] at e
    have hjn : j < n := by rw [List.length_take] at hj; omega
    have : j = k := (List.getElem_inj g.sim.nd).mp (e.trans ek.symm)
    omega
  have n0 : ∀ a ∈ as, B.H0 a = none := fun a ha => by
    obtain ⟨k, hk, e0⟩ := has a ha
    obtain ⟨ext, e1, e2⟩ := g.ok.pre
    refine e2 a ?_
    rw [e1, List.getElem?_append_right (by omega)] at e0
    exact List.mem_of_getElem? e0
  refine ⟨⟨⟨g2.ok.wsub.trans sm, fun b o h => ?_, g2.ok.fr, g2.ok.pre, g2.ok.live⟩, ⟨fun b o h => ?_, g2.sim.nd, g2.sim.len, fun b h => ?_, fun j b o q1 q2 => ?_, g2.sim.tab, fun p hp => ?_⟩, g2.wext.trans sm, g2.mext⟩, sm⟩
  · by_cases e : b ∈ as
    · exact .inr (.inl (n0 b e))
    · have h : (if b ∈ as then H b else W b) = some o := h
      rw [if_neg e] at h; exact g2.ok.wnew b o h
  · have h : (if b ∈ as then H b else W b) = some o := h
    by_cases e : b ∈ as
    · rw [if_pos e] at h; exact h
    · rw [if_neg e] at h; exact g2.sim.sub b o h
  · show (if b ∈ as then H b else W b) = none
    rw [if_neg (fun e => na b e h)]; exact g2.sim.out b h
  · have q := (g2.sim.ob j b o q1 q2).mono (μ' := []) sm (H' := H) (fun w e => e)
    rwa [List.append_nil] at q
  · show (if p.2.1 ∈ as then H p.2.1 else W p.2.1) = none
    rw [if_neg (fun z => by
      obtain ⟨ps, h1, _⟩ := g2.sim.tab p hp
      obtain ⟨k, _, e0⟩ := has _ z
      exact (g.sim.plain (List.mem_of_getElem? e0) h1).1 _ rfl)]
    exact g2.sim.tw p hp
theorem froz_run {n : Nat} {x y : AV} {v : V} (g : Go B K W1 μ1 W μ M H) (hn : μ1.length ≤ n) (h1 : B.μ0.length ≤ n) (hb : ∀ o ∈ M.take n, o.below n = true) (z : Froz n M x y) (r : RA K W μ x v) :
    ∃ W', Go B K W1 μ1 W' (μ.take n) (M.take n) H ∧ RA K W' (μ.take n) y v := by
  cases z with
  | dat => exact ⟨W, go_cut g hn h1 hb, r⟩
  | low hk => exact ⟨W, go_cut g hn h1 hb, ra_below r (by unfold AV.below; exact decide_eq_true hk)⟩
  | @lst k l hk hm =>
    obtain ⟨a, ha, rfl⟩ := r
    obtain ⟨vs, e1, e2⟩ := g.sim.ob k a _ ha hm
    have g3 := go_frz g hn h1 hb hk ha e1
    exact ⟨_, g3, a, vs, rfl, upd_same, RDs.mono (same_upd (g.sim.out a (List.mem_of_getElem? ha))) e2⟩
  | @ins k C ns l hk hm =>
    obtain ⟨a, ha, rfl⟩ := r
    obtain ⟨dx, vs, e1, e2, e3⟩ := g.sim.ob k a _ ha hm
    have g3 := go_frz g hn h1 hb hk ha e1
    exact ⟨_, g3, a, dx, vs, rfl, upd_same, by simpa using e2, RDs.mono (same_upd (g.sim.out a (List.mem_of_getElem? ha))) e3.of_ds⟩
  | @lls k js ls hk hm hl hj =>
    obtain ⟨a, ha, rfl⟩ := r
    obtain ⟨vs, e1, e2⟩ := g.sim.ob k a _ ha hm
    have item : ∀ (i : Nat) (v : V), vs[i]? = some v → ∃ (j : Nat) (l : List D) (b : Addr) (us : List V), js[i]? = some j ∧ ls[i]? = some l ∧ n ≤ j ∧ μ[j]? = some b ∧ v = .ref b ∧ H b = some (.lst us) ∧ RDs K W l us := fun i v hv => by
      have li := (List.getElem?_eq_some_iff.mp hv).1
      have lj : i < js.length := by have := e2.length; rw [List.length_map] at this; omega
      have hji : js[i]? = some js[i] := List.getElem?_eq_getElem lj
      have hli : ls[i]? = some (ls[i]'(by omega)) := List.getElem?_eq_getElem (by omega)
      obtain ⟨q1, q2⟩ := hj i _ _ hji hli
      obtain ⟨v', h1, b, h2, h3⟩ := e2.get (i := i) (d := .m js[i]) (by rw [List.getElem?_map, hji]; rfl)
      rw [hv] at h1
      cases h1
      obtain ⟨us, u1, u2⟩ := g.sim.ob _ b _ h2 q2
      exact ⟨_, _, b, us, hji, hli, q1, h2, h3, u1, u2⟩
    obtain ⟨g3, sm⟩ := go_frzL (as := a :: (js.filterMap fun j => μ[j]?)) g hn h1 hb (fun b hb' => by
      rcases List.mem_cons.mp hb' with rfl | hb'
      · exact ⟨k, hk, ha⟩
      · obtain ⟨j, hjm, e⟩ := List.mem_filterMap.mp hb'
        obtain ⟨i, hi, e'⟩ := List.getElem_of_mem hjm
        have lv : i < vs.length := by have := e2.length; rw [List.length_map] at this; omega
        obtain ⟨j', l, b', us, h1, h2, h3, h4, _⟩ := item i vs[i] (List.getElem?_eq_getElem lv)
        rw [List.getElem?_eq_getElem hi, e'] at h1
        cases h1
        exact ⟨j, h3, e⟩)
    refine ⟨_, g3, a, vs, rfl, by show (if a ∈ _ then H a else W a) = _; rw [if_pos List.mem_cons_self]; exact e1, ?_⟩
    have build : ∀ (ls : List (List D)) (vs : List V), ls.length = vs.length → (∀ (i : Nat) (v : V) (l : List D), vs[i]? = some v → ls[i]? = some l → RD K (fun b => if b ∈ a :: (js.filterMap fun j => μ[j]?) then H b else W b) (.lst l) v) → RDs K (fun b => if b ∈ a :: (js.filterMap fun j => μ[j]?) then H b else W b) (ls.map D.lst) vs := by
      intro ls
      induction ls with
      | nil =>
        intro vs hlen _
        cases vs with
        | nil => rfl
        | cons v vs => cases hlen
      | cons l ls ih =>
        intro vs hlen hall
        cases vs with
        | nil => cases hlen
        | cons v vs => exact ⟨v, vs, rfl, hall 0 v l rfl rfl, ih vs (by simpa using hlen) fun i v' l' h1 h2 => hall (i + 1) v' l' (by simpa using h1) (by simpa using h2)⟩
    refine build ls vs (by have := e2.length; rw [List.length_map] at this; omega) fun i v l hv hl' => ?_
    obtain ⟨j, l2, b, us, h1, h2, h3, h4, rfl, h6, h7⟩ := item i v hv
    rw [hl'] at h2
    cases h2
    refine ⟨b, us, rfl, ?_, RDs.mono sm h7⟩
    show (if b ∈ _ then H b else W b) = _
    rw [if_pos (List.mem_cons_of_mem _ (List.mem_filterMap.mpr ⟨j, List.mem_of_getElem? h1, h4⟩))]
    exact h6
theorem ras_isD2 {K : PySem.W.Frag} {W : Hp} {μ μ' : List Addr} : ∀ {x : List AV} {v : List V}, RAs K W μ x v → x.all AV.isD = true → RAs K W μ' x v
  | [], _, h, _ => h
  | .d x :: l, _, ⟨v, r, e1, h, t⟩, q => ⟨v, r, e1, h, ras_isD2 t (by rw [List.all_cons, Bool.and_eq_true] at q; exact q.2)⟩
  | .m k :: l, _, ⟨v, r, e1, h, t⟩, q => by rw [List.all_cons, Bool.and_eq_true] at q; exact absurd q.1 Bool.false_ne_true
theorem or_isD {K : PySem.W.Frag} {W H : Hp} {μ μ' : List Addr} {o : MO} {a : Addr} (h : OR K W μ H o a) (hd : o.isD = true) : OR K W μ' H o a := by
  cases o with
  | lst l => exact h
  | ins C ns l =>
    obtain ⟨dx, vs, h1, h2, h3⟩ := h
    exact ⟨dx, vs, h1, h2, ras_isD2 h3 hd⟩
  | ls l =>
    obtain ⟨vs, h1, h3⟩ := h
    exact ⟨vs, h1, ras_isD2 h3 hd⟩
  | dT ks l =>
    obtain ⟨vs, h1, h2, h3⟩ := h
    exact ⟨vs, h1, h2, ras_isD2 h3 hd⟩
  | dK ks l =>
    obtain ⟨vs, h1, h2, h3⟩ := h
    exact ⟨vs, h1, h2, ras_isD2 h3 hd⟩
/-- of the younger objects one alone is kept -/
theorem go_pick {n k : Nat} {a : Addr} {o : MO} (g : Go B K W1 μ1 W μ M H) (hn : μ1.length ≤ n) (h1 : B.μ0.length ≤ n) (hb : ∀ o ∈ M.take n, o.below n = true) (hk : n ≤ k) (ha : μ[k]? = some a) (ho : M[k]? = some o) (hd : o.isD = true) :
    Go B K W1 μ1 W (μ.take n ++ [a]) (M.take n ++ [o]) H := by
  have g2 := go_cut g hn h1 hb
  have wa : W a = none := g.sim.out a (List.mem_of_getElem? ha)
  have hkl : k < M.length := (List.getElem?_eq_some_iff.mp ho).1
  have hml : (M.take n).length = n := by rw [List.length_take]; omega
  have hμl : (μ.take n).length = n := by rw [List.length_take, g.sim.len]; omega
  have na : a ∉ μ.take n := fun h => by
    obtain ⟨j, hj, e⟩ := List.getElem_of_mem h
    obtain ⟨lk, ek⟩ := List.getElem?_eq_some_iff.mp ha
    rw [List.getElem_take] at e
    have : j = k := (List.getElem_inj g.sim.nd).mp (e.trans ek.symm)
    omega
  have n0 : B.H0 a = none := by
    obtain ⟨ext, e1, e2⟩ := g.ok.pre
    refine e2 a ?_
    rw [e1, List.getElem?_append_right (by omega)] at ha
    exact List.mem_of_getElem? ha
  obtain ⟨ext, e1, e2⟩ := g2.ok.pre
  obtain ⟨ex, he⟩ := g2.mext
  refine ⟨⟨g2.ok.wsub, g2.ok.wnew, g2.ok.fr, ⟨ext ++ [a], by rw [e1, List.append_assoc], fun x hx => ?_⟩, g2.ok.live⟩, ⟨g2.sim.sub, List.nodup_append.mpr ⟨g2.sim.nd, by simp, fun x hx y hy e => ?_⟩, by simp [hml, hμl], fun x hx => ?_, fun j x u q1 q2 => ?_, g2.sim.tab, g2.sim.tw⟩, g2.wext, ⟨ex ++ [a], by rw [he, List.append_assoc]⟩⟩
  · rcases List.mem_append.mp hx with hx | hx
    · exact e2 x hx
    · rw [List.mem_singleton.mp hx]; exact n0
  · rw [List.mem_singleton.mp hy] at e
    exact na (e ▸ hx)
  · rcases List.mem_append.mp hx with hx | hx
    · exact g2.sim.out x hx
    · rw [List.mem_singleton.mp hx]; exact wa
  · by_cases hj : j < n
    · rw [List.getElem?_append_left (by omega)] at q1 q2
      have z := (g2.sim.ob j x u q1 q2).mono (μ' := [a]) (fun _ _ h => h) (H' := H) (fun _ e => e)
      exact z
    · rw [List.getElem?_append_right (by omega)] at q1 q2
      rw [hμl] at q1
      rw [hml] at q2
      have hj0 : j - n = 0 := by
        have := (List.getElem?_eq_some_iff.mp q1).1
        simp at this
        omega
      rw [hj0] at q1 q2
      simp at q1 q2
      subst q1; subst q2
      exact or_isD (g.sim.ob k a o ha ho) hd
/-- some end that the callers can see so -/
def RetS (n0 : Nat) (P : AV → List MO → Prop) (x : AV) (M : List MO) : Prop := ∀ (B : Base) (K : PySem.W.Frag) (W1 : Hp) (μ1 : List Addr) (W : Hp) (μ : List Addr) (H : Hp) (v : V), μ1.length = n0 → B.μ0.length = n0 → Go B K W1 μ1 W μ M H → RA K W μ x v →
  ∃ W' μ' y M', Go B K W1 μ1 W' μ' M' H ∧ RA K W' μ' y v ∧ P y M'
/-- the end of a def: n0 objects were handed in -/
def RT (n0 : Nat) (P : AV → List MO → Prop) : AV → List MO → Prop := fun x M => (∃ n y, n0 ≤ n ∧ Froz n M x y ∧ (∀ o ∈ M.take n, o.below n = true) ∧ P y (M.take n)) ∨
  (∃ k o, x = .m k ∧ n0 ≤ k ∧ M[k]? = some o ∧ o.isD = true ∧ (∀ o ∈ M.take n0, o.below n0 = true) ∧ P (.m n0) (M.take n0 ++ [o])) ∨ RetS n0 P x M
def XT (n0 : Nat) (P : Exc → List MO → Prop) : Exc → List MO → Prop := fun x M => ∃ n, n0 ≤ n ∧ (∀ o ∈ M.take n, o.below n = true) ∧ P x (M.take n)
def defEnds (n0 : Nat) (P : AV → List MO → Prop) : AEnds := { nx := fun _ M => RT n0 P (.d .non) M, rt := RT n0 P }
def startA (N : List Str) (xs : List AV) : AEnv := xs.map some ++ List.replicate (N.length - xs.length) none
theorem re_start {N : List Str} : ∀ {xs : List AV} {vs : List V}, RAs K W μ xs vs → RE K W μ (startA N xs) (L2.start N vs) := fun {xs vs} r => by
  unfold startA L2.start
  refine ⟨by simp [r.length], fun i x q => ?_⟩
  by_cases hi : i < xs.length
  · rw [List.getElem?_append_left (by simpa using hi)] at q
    rw [List.getElem?_append_left (by rw [List.length_map, ← r.length]; exact hi)]
    rw [List.getElem?_map] at q ⊢
    cases e : xs[i]? with
    | none => rw [e] at q; cases q
    | some y =>
      rw [e] at q
      simp only [Option.map_some, Option.some.injEq] at q
      subst q
      obtain ⟨v, h1, h2⟩ := r.get e
      exact ⟨v, by rw [h1]; rfl, h2⟩
  · rw [List.getElem?_append_right (by simp; omega), List.getElem?_replicate] at q
    split at q <;> cases q
end
section
variable {P : Program} {w : World} {K : PySem.W.Frag} {mg : Str → Option Value} {base : Heap}
theorem conc_body {B0 : Type} {asp : ASp} {t : TS} {N : List Str} {vs : List V} {H : Hp} {Q : VK} {E : XK} (h : conc K asp vs H Q E)
    (body : ∀ (B : Base) xs M Φ Ψ, B.μ0.length = M.length → asp xs M Φ Ψ → EFits B K (XT M.length Ψ) E → AS B K t (startA N xs) M (defEnds M.length Φ)) : t { nx := fun _ H' => Q .non H', rt := Q } (L2.start N vs) H := by
  obtain ⟨W, μ, M, xs, s, r, ha⟩ := h
  refine body ⟨W, μ, H⟩ xs M _ _ s.len ha (fun x M1 W1 μ1 H1 cls d ⟨n, hn, hb, p⟩ o1 s1 rx => ?_) W μ H _ Ok.refl s (re_start r) _ ⟨fun σ M1 W1 μ1 H1 τ hz g e => ?_, fun x M1 W1 μ1 H1 v hz g rv => ?_, fun _ _ _ _ _ _ q => q.elim, fun _ _ _ _ _ _ q => q.elim⟩
  · have g : Go ⟨W, μ, H⟩ K W μ W1 μ1 M1 H1 := ⟨o1, s1, o1.wsub, let ⟨e, h, _⟩ := o1.pre; ⟨e, h⟩⟩
    exact p _ _ _ _ _ (go_cut g (by rw [s.len]; exact hn) (by show μ.length ≤ n; rw [s.len]; exact hn) hb) rx
  · rcases hz with ⟨n, y, hn, z, hb, p⟩ | ⟨k, o, ex, _⟩ | hz
    · obtain ⟨W2, g2, r2⟩ := froz_run (v := .non) g (by rw [s.len]; exact hn) (by show μ.length ≤ n; rw [s.len]; exact hn) hb z rfl
      exact p _ _ _ _ g2 r2
    · cases ex
    · obtain ⟨W2, μ2, y, M2, g2, r2, p⟩ := hz ⟨W, μ, H⟩ K W μ W1 μ1 H1 .non s.len s.len g rfl
      exact p _ _ _ _ g2 r2
  · rcases hz with ⟨n, y, hn, z, hb, p⟩ | ⟨k, o, ex, hk, ho, hd, hb, p⟩ | hz
    · obtain ⟨W2, g2, r2⟩ := froz_run g (by rw [s.len]; exact hn) (by show μ.length ≤ n; rw [s.len]; exact hn) hb z rv
      exact p _ _ _ _ g2 r2
    · subst ex
      obtain ⟨a, ha, rfl⟩ := rv
      have g3 := go_pick g (n := M.length) (by rw [s.len]; exact Nat.le_refl _) (by show μ.length ≤ _; rw [s.len]; exact Nat.le_refl _) hb hk ha ho hd
      have hl : k < M1.length := (List.getElem?_eq_some_iff.mp ho).1
      have hμ : (μ1.take M.length).length = M.length := by rw [List.length_take, g.sim.len]; omega
      exact p _ _ _ _ g3 ⟨a, by rw [List.getElem?_append_right (by omega), hμ, Nat.sub_self]; rfl, rfl⟩
    · obtain ⟨W2, μ2, y, M2, g2, r2, p⟩ := hz ⟨W, μ, H⟩ K W μ W1 μ1 H1 v s.len s.len g rv
      exact p _ _ _ _ g2 r2
/-- a def that raises nothing -/
theorem fn_al {x qual : Str} {st : Stmt} {f : Addr} {fd : FuncData} {N ps : List Str} {k : Nat} {asp : ASp} (F : Fun K x qual st f fd) (S : FnScope N ps (defScope st)) (len : ∀ xs M Φ Ψ, asp xs M Φ Ψ → xs.length = ps.length)
    (hbody : ∀ (cdv : Value) (A : Around) (outer : List Env) (s : Shared) (H : Hp) (E : XK), Room k (A.deeper (envOfC qual (defScope st) s.heap.objs.size f cdv)) →
      ∃ t, PSs (cxOf CX0 P w K mg base N qual (defScope st) f cdv A outer s H E).nox (defBody st) t ∧ ∀ (B : Base) xs M Φ Ψ, B.μ0.length = M.length → asp xs M Φ Ψ → AS B K t (startA N xs) M (defEnds M.length Φ)) : FnOk P w K mg base CX0 (k + 1) f fd ps (conc K asp) := by
  refine F.ok S (fun vs H Q E h => ?_) (fun cdv A outer s H vs Q E hr h => ?_)
  · obtain ⟨W, μ, M, xs, _, r, ha⟩ := h
    rw [← r.length]; exact len _ _ _ _ ha
  · obtain ⟨t, h1, h2⟩ := hbody cdv A outer s H E hr
    exact ⟨t, h1, conc_body (B0 := Unit) h fun B xs M Φ Ψ hB ha _ => h2 B xs M Φ Ψ hB ha⟩
/-- a def that may raise -/
theorem fn_alX {x qual : Str} {st : Stmt} {f : Addr} {fd : FuncData} {N ps : List Str} {k : Nat} {asp : ASp} (F : Fun K x qual st f fd) (S : FnScope N ps (defScope st)) (len : ∀ xs M Φ Ψ, asp xs M Φ Ψ → xs.length = ps.length)
    (hbody : ∀ (cdv : Value) (A : Around) (outer : List Env) (s : Shared) (H : Hp) (E : XK), Room k (A.deeper (envOfC qual (defScope st) s.heap.objs.size f cdv)) →
      ∃ t, PSs (cxOf (L2.CX P w) P w K mg base N qual (defScope st) f cdv A outer s H E) (defBody st) t ∧ ∀ (B : Base) xs M Φ Ψ, B.μ0.length = M.length → asp xs M Φ Ψ → EFits B K (XT M.length Ψ) E → AS B K t (startA N xs) M (defEnds M.length Φ)) : FnOk P w K mg base (L2.CX P w) (k + 1) f fd ps (conc K asp) := by
  refine F.okX S (fun vs H Q E h => ?_) (fun cdv A outer s H vs Q E hr h => ?_)
  · obtain ⟨W, μ, M, xs, _, r, ha⟩ := h
    rw [← r.length]; exact len _ _ _ _ ha
  · obtain ⟨t, h1, h2⟩ := hbody cdv A outer s H E hr
    exact ⟨t, h1, conc_body (B0 := Unit) h h2⟩
end
section
variable {B : Base} {K : PySem.W.Frag} {σ : AEnv} {M : List MO} {ta tb te tl : TE} {x y : AV}
def ItOk (K : PySem.W.Frag) (W : Hp) (μ : List Addr) (P : List MO → Prop) (J : It) (items : List D) : Prop := ∀ W1 H M e, Same W W1 → Sim K W1 (μ ++ e) M H → P M →
  (∀ i d, items[i]? = some d → J.go i H ∧ ∀ x H', J.yld i H x H' → (H' = H ∧ RD K W1 d x) ∨ (∃ p o, H p = none ∧ H' = upd H p o ∧ RD K (upd W1 p o) d x) ∨ (H' = H ∧ ∃ q xs, H q = some (.tup xs) ∧ RD K (upd W1 q (.tup xs)) d x) ∨ (∃ p o q xs, H p = none ∧ H q = some (.tup xs) ∧ H' = upd H p o ∧ RD K (upd (upd W1 q (.tup xs)) p o) d x)) ∧ J.stop items.length H
/-- a walk over items that stand while P does -/
def AIP (P : List MO → Prop) (B : Base) (K : PySem.W.Frag) (wi : TI) (σ : AEnv) (M : List MO) (Φ : List D → List MO → Prop) : Prop := ∀ W μ H τ, Ok B W μ H → Sim K W μ M H → RE K W μ σ τ → ∀ R : It → Hp → Prop,
  (∀ items M' W' μ' H' J, Φ items M' → Go B K W μ W' μ' M' H' → ItOk K W' μ' P J items → R J H') → wi τ H R
abbrev AI := AIP (fun _ => True)
theorem ai_list {Φ : List D → List MO → Prop} (h : AE B K tl σ M fun x M1 => ∃ l, x = .d (.lst l) ∧ Φ l M1) : AI B K (iList K tl) σ M Φ := fun W μ H τ o s e R q =>
  h W μ H τ o s e _ fun x M1 W1 μ1 H1 v ⟨l, e1, p⟩ f1 r1 => by
    subst e1
    obtain ⟨a, vs, rfl, h1, h2⟩ := r1
    refine ⟨a, rfl, ⟨vs, SqL.of (f1.sim.sub _ _ h1)⟩, q _ _ _ _ _ _ p f1 fun W2 H2 M2 e2 s1 sm _ => ?_⟩
    have s2 := sm.sub
    have hq : SqL K H2 a vs := SqL.of ((s1.trans s2) _ _ h1)
    refine ⟨fun i d hd => ?_, ⟨vs, hq, by rw [h2.length]; exact Nat.le_refl _⟩⟩
    obtain ⟨v, hv, rv⟩ := h2.get hd
    refine ⟨⟨vs, v, hq, hv⟩, fun x H' ⟨e1, e2⟩ => .inl ⟨e1, ?_⟩⟩
    have := e2 vs hq
    rw [hv] at this; cases this
    exact RD.mono s1 rv
theorem ai_tup {Φ : List D → List MO → Prop} (h : AE B K tl σ M fun x M1 => ∃ l, x = .d (.tup l) ∧ Φ l M1) : AI B K (iTup K tl) σ M Φ := fun W μ H τ o s e R q =>
  h W μ H τ o s e _ fun x M1 W1 μ1 H1 v ⟨l, e1, p⟩ f1 r1 => by
    subst e1
    obtain ⟨a, vs, rfl, h1, h2⟩ := r1
    refine ⟨a, rfl, ⟨vs, sqt_mono f1.sim.sub h1⟩, q _ _ _ _ _ _ p f1 fun W2 H2 M2 e2 s1 sm _ => ?_⟩
    have s2 := sm.sub
    have hq := sqt_mono (s1.trans s2) h1
    refine ⟨fun i d hd => ?_, ⟨vs, hq, by rw [h2.length]; exact Nat.le_refl _⟩⟩
    obtain ⟨v, hv, rv⟩ := h2.get hd
    refine ⟨⟨vs, v, hq, hv⟩, fun x H' ⟨e1, e2⟩ => .inl ⟨e1, ?_⟩⟩
    have := e2 vs hq
    rw [hv] at this; cases this
    exact RD.mono s1 rv
def rngD (lo : Int) (n : Nat) : List D := (List.range n).map fun (i : Nat) => D.int (lo + (i : Int))
theorem rngD_len (lo : Int) (n : Nat) : (rngD lo n).length = n := by unfold rngD; simp
theorem rngD_get {lo : Int} {n i : Nat} {d : D} (h : (rngD lo n)[i]? = some d) : i < n ∧ d = .int (lo + (i : Int)) := by
  have hl := (List.getElem?_eq_some_iff.mp h).1
  rw [rngD_len] at hl
  unfold rngD at h
  rw [List.getElem?_map, List.getElem?_range hl] at h
  cases h
  exact ⟨hl, rfl⟩
theorem it_rng {W : Hp} {μ : List Addr} {P : List MO → Prop} {lo : Int} {n : Nat} : ItOk K W μ P (Itr lo n) (rngD lo n) := fun W2 H2 M2 e2 s1 sm _ => by
  have s2 := sm.sub
  refine ⟨fun i d hd => ?_, by rw [rngD_len]; exact Nat.le_refl _⟩
  obtain ⟨hi, rfl⟩ := rngD_get hd
  exact ⟨hi, fun x H' ⟨e1, e2⟩ => .inl ⟨e1, e2⟩⟩
theorem ai_rng1 {ta : TA} {Φ : List D → List MO → Prop} (h : AA B K ta σ M fun xs M1 => ∃ j : Int, xs = [.d (.int j)] ∧ -(2 ^ 62) ≤ j ∧ j < 2 ^ 62 ∧ Φ (rngD 0 j.toNat) M1) : AI B K (iRng1 ta) σ M Φ := fun W μ H τ o s e R q =>
  h W μ H τ o s e _ fun x M1 W1 μ1 H1 v ⟨j, e1, h1, h2, p⟩ f1 r1 => by
    subst e1
    obtain ⟨v, r, rfl, r2, r3⟩ := r1
    cases r2; cases r3
    exact ⟨j, rfl, h1, h2, q _ _ _ _ _ _ p f1 it_rng⟩
/-- a tuple that stands is told of -/
theorem go_tup {W : Hp} {μ : List Addr} {H : Hp} {q : Addr} {xs : List V} (o : Ok B W μ H) (s : Sim K W μ M H) (hq : H q = some (.tup xs)) : Go B K W μ (upd W q (.tup xs)) μ M H := by
  have sm : Same W (upd W q (.tup xs)) := fun b u h => by
    by_cases e : b = q
    · subst e
      have := s.sub b u h
      rw [hq] at this
      rw [upd_same, ← this]
    · rw [upd_ne e]; exact h
  have np : ¬ Plain (.tup xs) := fun z => z.2.2 xs rfl
  have nm : ∀ a ∈ μ, a ≠ q := fun a ha e => by subst e; exact np (s.plain ha hq)
  refine ⟨⟨o.wsub.trans sm, fun b u h => ?_, o.fr, o.pre, o.live⟩, ⟨fun b u h => ?_, s.nd, s.len, fun b h => ?_, fun j b u q1 q2 => ?_, s.tab, fun p hp => ?_⟩, sm, ⟨[], by simp⟩⟩
  · by_cases e : b = q
    · subst e; rw [upd_same] at h; cases h; exact .inr (.inr np)
    · rw [upd_ne e] at h; exact o.wnew b u h
  · by_cases e : b = q
    · subst e; rw [upd_same] at h; cases h; exact hq
    · rw [upd_ne e] at h; exact s.sub b u h
  · rw [upd_ne (nm b h)]; exact s.out b h
  · have q := (s.ob j b u q1 q2).mono (μ' := []) sm (H' := H) (fun w e => e)
    rwa [List.append_nil] at q
  · rw [upd_ne (fun z => by obtain ⟨ps, h1, _⟩ := s.tab p hp; rw [z, hq] at h1; cases h1)]; exact s.tw p hp
/-- a turn's item -/
theorem go_item {W : Hp} {μ : List Addr} {H H' : Hp} {d : D} {x : V} (o : Ok B W μ H) (s : Sim K W μ M H) (h : (H' = H ∧ RD K W d x) ∨ (∃ p u, H p = none ∧ H' = upd H p u ∧ RD K (upd W p u) d x) ∨ (H' = H ∧ ∃ q xs, H q = some (.tup xs) ∧ RD K (upd W q (.tup xs)) d x) ∨ (∃ p u q xs, H p = none ∧ H q = some (.tup xs) ∧ H' = upd H p u ∧ RD K (upd (upd W q (.tup xs)) p u) d x)) : ∃ W', Go B K W μ W' μ M H' ∧ RD K W' d x := by
  rcases h with ⟨rfl, h⟩ | ⟨p, u, hp, rfl, h⟩ | ⟨rfl, q, xs, hq, h⟩ | ⟨p, u, q, xs, hp, hq, rfl, h⟩
  · exact ⟨W, .refl o s, h⟩
  · exact ⟨_, go_new o s hp, h⟩
  · exact ⟨_, go_tup o s hq, h⟩
  · have g := go_tup o s hq
    exact ⟨_, g.trans (go_new g.ok g.sim hp), h⟩
/-- for: I the invariant, over the turn; n objects stand at each turn's start -/
theorem as_forP {P : List MO → Prop} {wi : TI} {g : TG} {tb : TS} {Φ : AEnds} {n : Nat} (I : Nat → AEnv → List MO → Prop) (hI : ∀ i σ M, I i σ M → M.length = n) (hP : ∀ i σ M, I i σ M → P M) (h : AIP P B K wi σ M fun items M1 => I 0 σ M1 ∧
      (∀ i d σ' M', items[i]? = some d → I i σ' M' → AG B K g (.d d) σ' M' fun σ2 M2 => AS B K tb σ2 M2 { nx := Cut n (I (i + 1)), ct := Cut n (I (i + 1)), bk := Φ.nx, rt := Φ.rt }) ∧ (∀ σ' M', I items.length σ' M' → Φ.nx σ' M')) : AS B K (tFor wi g tb) σ M Φ := fun W μ H τ o s e E f =>
  h W μ H τ o s e _ fun items M1 W1 μ1 H1 J ⟨h0, hs, hd⟩ f1 ok => by
    have hl : μ1.length = n := by rw [f1.sim.len]; exact hI _ _ _ h0
    have hB : B.μ0.length ≤ n := by
      obtain ⟨ext, e1, _⟩ := f1.ok.pre
      rw [← hl, e1, List.length_append]; omega
    refine ⟨fun i m τ' H' => m = items.length - i ∧ i ≤ items.length ∧ ∃ σ' M' W' , I i σ' M' ∧ Go B K W1 μ1 W' μ1 M' H' ∧ RE K W' μ1 σ' τ', ⟨items.length, rfl, Nat.zero_le _, σ, M1, W1, h0, .refl f1.ok f1.sim, f1.re e⟩, ?_⟩
    rintro i m τ' H' ⟨rfl, hi, σ', M', W', hi1, g1, e1⟩
    have hok := ok W' H' M' [] g1.wext (by rw [List.append_nil]; exact g1.sim) (hP _ _ _ hi1)
    by_cases hlt : i < items.length
    · refine .inr ?_
      obtain ⟨hgo, hy⟩ := hok.1 i items[i] (List.getElem?_eq_getElem hlt)
      refine ⟨hgo, fun τ2 H2 => items.length - (i + 1) = items.length - (i + 1) ∧ i + 1 ≤ items.length ∧ ∃ σ' M' W', I (i + 1) σ' M' ∧ Go B K W1 μ1 W' μ1 M' H2 ∧ RE K W' μ1 σ' τ2, fun τ2 H2 hN => ⟨items.length - (i + 1), by omega, hN⟩, fun x Hx hyx => ?_⟩
      obtain ⟨Wx, gx, rx⟩ := go_item g1.ok g1.sim (hy x Hx hyx)
      refine hs i _ σ' M' (List.getElem?_eq_getElem hlt) hi1 Wx μ1 Hx τ' x gx.ok gx.sim (gx.re e1) rx _ fun σ2 M2 W2 μ2 H2 τ2 p2 f2 e2 => ?_
      have g12 : Go B K W1 μ1 W2 μ2 M2 H2 := (g1.trans gx).trans f2
      have turn : ∀ σ3 M3 W3 μ3 H3 τ3, Cut n (I (i + 1)) σ3 M3 → Go B K W2 μ2 W3 μ3 M3 H3 → RE K W3 μ3 σ3 τ3 → items.length - (i + 1) = items.length - (i + 1) ∧ i + 1 ≤ items.length ∧ ∃ σ' M' W', I (i + 1) σ' M' ∧ Go B K W1 μ1 W' μ1 M' H3 ∧ RE K W' μ1 σ' τ3 := by
        intro σ3 M3 W3 μ3 H3 τ3 ⟨hb, p3⟩ f3 e3
        have g13 := go_cut (g12.trans f3) (Nat.le_of_eq hl) hB hb
        have hm : μ3.take n = μ1 := by
          obtain ⟨e', he'⟩ := (g12.trans f3).mext
          rw [he', List.take_append, List.take_of_length_le (Nat.le_of_eq hl), hl, Nat.sub_self, List.take_zero, List.append_nil]
        have e4 := re_cut (n := n) e3
        rw [hm] at g13 e4
        exact ⟨rfl, hlt, _, _, W3, p3, g13, e4⟩
      exact p2 W2 μ2 H2 τ2 f2.ok f2.sim e2 _ ⟨fun σ3 M3 W3 μ3 H3 τ3 p3 f3 e3 => turn _ _ _ _ _ _ p3 f3 e3, f.rt, fun σ3 M3 W3 μ3 H3 τ3 p3 f3 e3 => f.nx _ _ _ _ _ _ p3 ((f1.trans g12).trans f3) e3, fun σ3 M3 W3 μ3 H3 τ3 p3 f3 e3 => turn _ _ _ _ _ _ p3 f3 e3⟩
    · have hil : i = items.length := by omega
      subst hil
      exact .inl ⟨hok.2, f.nx _ _ _ _ _ _ (hd _ _ hi1) (f1.trans g1) e1⟩
theorem as_for {wi : TI} {g : TG} {tb : TS} {Φ : AEnds} {n : Nat} (I : Nat → AEnv → List MO → Prop) (hI : ∀ i σ M, I i σ M → M.length = n) (h : AI B K wi σ M fun items M1 => I 0 σ M1 ∧
      (∀ i d σ' M', items[i]? = some d → I i σ' M' → AG B K g (.d d) σ' M' fun σ2 M2 => AS B K tb σ2 M2 { nx := Cut n (I (i + 1)), ct := Cut n (I (i + 1)), bk := Φ.nx, rt := Φ.rt }) ∧ (∀ σ' M', I items.length σ' M' → Φ.nx σ' M')) : AS B K (tFor wi g tb) σ M Φ := as_forP I hI (fun _ _ _ _ => True.intro) h
/-- while -/
theorem as_while {c : TT} {tb : TS} {Φ : AEnds} {n : Nat} (I : Nat → AEnv → List MO → Prop) (hI : ∀ i σ M, I i σ M → M.length = n) (m0 : Nat) (h0 : I m0 σ M)
    (h : ∀ m σ' M', I m σ' M' → AT B K c σ' M' fun b M2 => (b = true → AS B K tb σ' M2 { nx := Cut n (fun σ M => ∃ m', m' < m ∧ I m' σ M), ct := Cut n (fun σ M => ∃ m', m' < m ∧ I m' σ M), bk := Φ.nx, rt := Φ.rt }) ∧ (b = false → Φ.nx σ' M2)) : AS B K (tWhile c tb) σ M Φ := fun W μ H τ o s e E f => by
  have hl : μ.length = n := by rw [s.len]; exact hI _ _ _ h0
  have hB : B.μ0.length ≤ n := by
    obtain ⟨ext, e1, _⟩ := o.pre
    rw [← hl, e1, List.length_append]; omega
  refine ⟨fun m τ' H' => ∃ σ' M' W', I m σ' M' ∧ Go B K W μ W' μ M' H' ∧ RE K W' μ σ' τ', ⟨m0, σ, M, W, h0, .refl o s, e⟩, ?_⟩
  rintro m τ' H' ⟨σ', M', W', hi1, g1, e1⟩
  refine h m σ' M' hi1 W' μ H' τ' g1.ok g1.sim e1 _ fun b M2 W2 μ2 H2 ⟨p1, p2⟩ f2 => ?_
  cases b with
  | false => exact iteF (f.nx _ _ _ _ _ _ (p2 rfl) (g1.trans f2) (f2.re e1))
  | true =>
    refine iteT ⟨fun τ3 H3 => ∃ m', m' < m ∧ ∃ σ' M' W', I m' σ' M' ∧ Go B K W μ W' μ M' H3 ∧ RE K W' μ σ' τ3, fun τ3 H3 h => h, ?_⟩
    have turn : ∀ σ3 M3 W3 μ3 H3 τ3, Cut n (fun σ M => ∃ m', m' < m ∧ I m' σ M) σ3 M3 → Go B K W2 μ2 W3 μ3 M3 H3 → RE K W3 μ3 σ3 τ3 → ∃ m', m' < m ∧ ∃ σ' M' W', I m' σ' M' ∧ Go B K W μ W' μ M' H3 ∧ RE K W' μ σ' τ3 := by
      intro σ3 M3 W3 μ3 H3 τ3 ⟨hb, m', hm', p3⟩ f3 e3
      have g13 := go_cut ((g1.trans f2).trans f3) (Nat.le_of_eq hl) hB hb
      have hm : μ3.take n = μ := by
        obtain ⟨e', he'⟩ := ((g1.trans f2).trans f3).mext
        rw [he', List.take_append, List.take_of_length_le (Nat.le_of_eq hl), hl, Nat.sub_self, List.take_zero, List.append_nil]
      have e4 := re_cut (n := n) e3
      rw [hm] at g13 e4
      exact ⟨m', hm', _, _, W3, p3, g13, e4⟩
    exact p1 rfl W2 μ2 H2 τ' f2.ok f2.sim (f2.re e1) _ ⟨fun σ3 M3 W3 μ3 H3 τ3 p3 f3 e3 => turn _ _ _ _ _ _ p3 f3 e3, f.rt, fun σ3 M3 W3 μ3 H3 τ3 p3 f3 e3 => f.nx _ _ _ _ _ _ p3 ((g1.trans f2).trans f3) e3, fun σ3 M3 W3 μ3 H3 τ3 p3 f3 e3 => turn _ _ _ _ _ _ p3 f3 e3⟩
end
end Al
namespace Al
open PySem PyProof.Rows L2
variable [Al.TabList]
def wipeA (σ : AEnv) : List Nat → AEnv
  | [] => σ
  | v :: vs => (wipeA σ vs).set v none
theorem re_wipe {K : PySem.W.Frag} {W : Hp} {μ : List Addr} {σ : AEnv} {τ : L2.St} (h : RE K W μ σ τ) : ∀ vs : List Nat, RE K W μ (wipeA σ vs) (wipe τ vs)
  | [] => h
  | v :: vs => (re_wipe h vs).setN v
theorem wipe_get (τ : L2.St) : ∀ (vs : List Nat) (i : Nat), (wipe τ vs)[i]? = if i ∈ vs then (if i < τ.length then some none else none) else τ[i]?
  | [], i => by unfold wipe; simp
  | v :: vs, i => by
    unfold wipe
    by_cases e : v = i
    · subst e
      rw [List.getElem?_set]
      simp only [if_true, wipe_length, List.mem_cons_self]
    · rw [List.getElem?_set_ne e, wipe_get τ vs i]
      have : (i ∈ v :: vs) ↔ i ∈ vs := by
        rw [List.mem_cons]; constructor
        · rintro (z | z)
          · exact absurd z.symm e
          · exact z
        · exact .inr
      by_cases h : i ∈ vs
      · rw [if_pos h, if_pos (this.mpr h)]
      · rw [if_neg h, if_neg (fun z => h (this.mp z))]
theorem wipe_set {τ : L2.St} {vs : List Nat} {j : Nat} {x : Option V} (h : j ∈ vs) : wipe (τ.set j x) vs = wipe τ vs := by
  apply List.ext_getElem?
  intro i
  rw [wipe_get, wipe_get]
  by_cases hi : i ∈ vs
  · rw [if_pos hi, if_pos hi, List.length_set]
  · rw [if_neg hi, if_neg hi, List.getElem?_set_ne]
    intro e; exact hi (e ▸ h)
theorem wipe_wipe {τ : L2.St} {vs : List Nat} : wipe (wipe τ vs) vs = wipe τ vs := by
  apply List.ext_getElem?
  intro i
  rw [wipe_get, wipe_get, wipe_length]
  by_cases hi : i ∈ vs
  · rw [if_pos hi, if_pos hi]
  · rw [if_neg hi, if_neg hi]
/-- a target stores into these slots alone -/
def GK (g : TG) (vs : List Nat) : Prop := ∀ v τ H Q, g v τ H Q → g v τ H fun τ2 H2 => wipe τ2 vs = wipe τ vs ∧ Q τ2 H2
def GKs (g : TGs) (vs : List Nat) : Prop := ∀ v τ H Q, g v τ H Q → g v τ H fun τ2 H2 => wipe τ2 vs = wipe τ vs ∧ Q τ2 H2
theorem gk_name {i : Nat} {vs : List Nat} (h : vs.contains i = true) : GK (gName i) vs := fun v τ H Q q => ⟨wipe_set (by simpa using h), q⟩
theorem gks_nil {vs : List Nat} : GKs gNil vs := fun v τ H Q ⟨e, q⟩ => ⟨e, rfl, q⟩
theorem gks_name {i : Nat} {gs : TGs} {vs : List Nat} (h : vs.contains i = true) (hs : GKs gs vs) : GKs (gCons (gName i) gs) vs := fun v τ H Q ⟨a, r, e, q⟩ => ⟨a, r, e, by
  have := hs r _ H Q q
  have w : wipe (τ.set i (some a)) vs = wipe τ vs := wipe_set (by simpa using h)
  rw [w] at this
  exact this⟩
theorem gk_tup {K : PySem.W.Frag} {n : Nat} {gs : TGs} {vs : List Nat} (hs : GKs gs vs) : GK (gTup K n gs) vs := fun v τ H Q ⟨a, xs, e, h1, h2, q⟩ => ⟨a, xs, e, h1, h2, hs xs τ H Q q⟩
section
variable {B : Base} {K : PySem.W.Frag} {σ : AEnv} {M : List MO} {ta tb te : TE} {x y : AV}
theorem at_yes {Φ : Bool → List MO → Prop} (k : Φ true M) : AT B K tYes σ M Φ := fun W μ H τ o s e Q q => q _ _ _ _ _ k (.refl o s)
theorem ae_lcP {P : List MO → Prop} {wi : TI} {g : TG} {tt : TT} {vs : List Nat} {Φ : AV → List MO → Prop} {n : Nat} (I : Nat → List D → List MO → Prop) (hI : ∀ i acc M, I i acc M → M.length = n ∧ M.all (MO.below n) = true) (gk : GK g vs) (hP : ∀ i acc M, I i acc M → P (M ++ [.lst acc]))
    (h : AIP P B K wi σ M fun items M1 => I 0 [] M1 ∧ (∀ i d acc M', items[i]? = some d → I i acc M' → AG B K g (.d d) (wipeA σ vs) (M' ++ [.lst acc]) fun σ2 M2 => AT B K tt σ2 M2 fun b M3 =>
        (b = true → AE B K te σ2 M3 fun y M4 => ∃ z M5, y = .d z ∧ M4 = M5 ++ [.lst acc] ∧ acc.length < sizeLine ∧ I (i + 1) (acc ++ [z]) M5) ∧ (b = false → ∃ M5, M3 = M5 ++ [.lst acc] ∧ I (i + 1) acc M5)) ∧
      (∀ acc M', I items.length acc M' → Φ (.d (.lst acc)) M')) : AE B K (tLc wi g tt te vs) σ M Φ := fun W μ H τ o s e Q q =>
  h W μ H τ o s e _ fun items M1 W1 μ1 H1 J ⟨h0, hs, hd⟩ f1 ok Dd hD => by
    have hl : μ1.length = n := by rw [f1.sim.len]; exact (hI _ _ _ h0).1
    have hB : B.μ0.length ≤ n := by
      obtain ⟨ext, e1, _⟩ := f1.ok.pre
      rw [← hl, e1, List.length_append]; omega
    have g0 : Go B K W1 μ1 W1 (μ1 ++ [Dd]) (M1 ++ [.lst []]) (upd H1 Dd (.lst [])) := go_mut f1.ok f1.sim hD ⟨[], upd_same, rfl⟩
    have hDk : (μ1 ++ [Dd])[n]? = some Dd := by rw [← hl, List.getElem?_append_right (Nat.le_refl _), Nat.sub_self]; rfl
    refine ⟨fun i m H' => m = items.length - i ∧ i ≤ items.length ∧ ∃ acc M' W', I i acc M' ∧ Go B K W1 μ1 W' (μ1 ++ [Dd]) (M' ++ [.lst acc]) H', ⟨items.length, rfl, Nat.zero_le _, [], M1, W1, h0, g0⟩, ?_⟩
    rintro i m H' ⟨rfl, hi, acc, M', W', hi1, g1⟩
    have hok := ok W' H' (M' ++ [.lst acc]) [Dd] g1.wext g1.sim (hP _ _ _ hi1)
    have hM' : M'.length = n := (hI _ _ _ hi1).1
    by_cases hlt : i < items.length
    · refine .inr ?_
      obtain ⟨hgo, hy⟩ := hok.1 i items[i] (List.getElem?_eq_getElem hlt)
      refine ⟨hgo, fun H2 => i + 1 ≤ items.length ∧ ∃ acc M' W', I (i + 1) acc M' ∧ Go B K W1 μ1 W' (μ1 ++ [Dd]) (M' ++ [.lst acc]) H2, fun H2 hN => ⟨items.length - (i + 1), by omega, rfl, hN⟩, fun x Hx hyx => ?_⟩
      obtain ⟨Wx, gx, rx⟩ := go_item g1.ok g1.sim (hy x Hx hyx)
      have ex := re_wipe ((g1.trans gx).re (f1.re e)) vs
      have hag := hs i _ acc M' (List.getElem?_eq_getElem hlt) hi1 Wx (μ1 ++ [Dd]) Hx (wipe τ vs) x gx.ok gx.sim ex rx
      -- what is left behind
      have same : ∀ {M2 W2 μ2 H2}, Go B K Wx (μ1 ++ [Dd]) W2 μ2 M2 H2 → M2.length = n + 1 → μ2 = μ1 ++ [Dd] := by
        intro M2 W2 μ2 H2 f hm
        obtain ⟨e', he'⟩ := f.mext
        have hz := f.sim.len
        rw [he', hm] at hz
        have : e'.length = 0 := by simp at hz; omega
        rw [List.eq_nil_of_length_eq_zero this] at he'
        simpa using he'
      have key := gk x (wipe τ vs) Hx _ (hag (fun τ2 H2 => tt τ2 H2 fun b H3 =>
          if b = true then te τ2 H3 fun y H4 => ∃ acc, H4 Dd = some (.lst acc) ∧ acc.length < sizeLine ∧ (i + 1 ≤ items.length ∧ ∃ acc' M' W', I (i + 1) acc' M' ∧ Go B K W1 μ1 W' (μ1 ++ [Dd]) (M' ++ [.lst acc']) (upd H4 Dd (.lst (acc ++ [y])))) else (i + 1 ≤ items.length ∧ ∃ acc M' W', I (i + 1) acc M' ∧ Go B K W1 μ1 W' (μ1 ++ [Dd]) (M' ++ [.lst acc]) H3)) fun σ2 M2 W2 μ2 H2 τ2 p2 f2 e2 => ?_)
      · rw [wipe_wipe] at key
        exact key
      · refine p2 W2 μ2 H2 τ2 f2.ok f2.sim e2 _ fun b M3 W3 μ3 H3 ⟨p3, p4⟩ f3 => ?_
        have gx3 := f2.trans f3
        cases b with
        | false =>
          refine iteF ?_
          obtain ⟨M5, e5, p5⟩ := p4 rfl
          subst e5
          have hμ := same gx3 (by simp [(hI _ _ _ p5).1])
          subst hμ
          exact ⟨hlt, acc, M5, W3, p5, (g1.trans gx).trans gx3⟩
        | true =>
          refine iteT ?_
          refine p3 rfl W3 μ3 H3 τ2 f3.ok f3.sim (f3.re e2) _ fun y M4 W4 μ4 H4 v ⟨z, M5, ez, e5, hz, p5⟩ f4 r4 => ?_
          subst ez; subst e5
          have gx4 := gx3.trans f4
          have hM5 : M5.length = n := (hI _ _ _ p5).1
          have hμ := same gx4 (by simp [hM5])
          subst hμ
          obtain ⟨vs', h1, h2⟩ := f4.sim.ob n Dd (.lst acc) hDk (by rw [← hM5, List.getElem?_append_right (Nat.le_refl _), Nat.sub_self]; rfl)
          have g5 := go_set (mo := .lst (acc ++ [z])) (u := .lst (vs' ++ [v])) f4.ok f4.sim hDk ⟨_, upd_same, RDs.append h2 (RDs.one r4)⟩
          have eM : (M5 ++ [MO.lst acc]).set n (.lst (acc ++ [z])) = M5 ++ [.lst (acc ++ [z])] := by
            rw [List.set_append_right _ _ (by omega), hM5, Nat.sub_self]; rfl
          rw [eM] at g5
          exact ⟨vs', h1, by rw [← h2.length]; exact hz, hlt, acc ++ [z], M5, W4, p5, ((g1.trans gx).trans gx4).trans g5⟩
    · have hil : i = items.length := by omega
      subst hil
      refine .inl ⟨hok.2, ?_⟩
      obtain ⟨vs', h1, h2⟩ := g1.sim.ob n Dd (.lst acc) hDk (by rw [← hM', List.getElem?_append_right (Nat.le_refl _), Nat.sub_self]; rfl)
      by_cases hbl : ∀ o ∈ (M' ++ [MO.lst acc]).take n, o.below n = true
      · have g3 := go_frz g1 (Nat.le_of_eq hl) hB hbl (Nat.le_refl _) hDk h1
        have em : (M' ++ [MO.lst acc]).take n = M' := by rw [List.take_append_of_le_length (by omega), List.take_of_length_le (by omega)]
        have eμ : (μ1 ++ [Dd]).take n = μ1 := by rw [List.take_append_of_le_length (by omega), List.take_of_length_le (by omega)]
        rw [em, eμ] at g3
        exact q _ _ _ _ _ _ (hd _ _ hi1) (f1.trans g3) ⟨Dd, vs', rfl, upd_same, RDs.mono (same_upd (g1.sim.out Dd (List.mem_of_getElem? hDk))) h2⟩
      · refine absurd (fun ob hob => ?_) hbl
        rw [List.take_append_of_le_length (by omega), List.take_of_length_le (by omega)] at hob
        exact List.all_eq_true.mp (hI _ _ _ hi1).2 ob hob
theorem ae_lc {wi : TI} {g : TG} {tt : TT} {vs : List Nat} {Φ : AV → List MO → Prop} {n : Nat} (I : Nat → List D → List MO → Prop) (hI : ∀ i acc M, I i acc M → M.length = n ∧ M.all (MO.below n) = true) (gk : GK g vs)
    (h : AI B K wi σ M fun items M1 => I 0 [] M1 ∧ (∀ i d acc M', items[i]? = some d → I i acc M' → AG B K g (.d d) (wipeA σ vs) (M' ++ [.lst acc]) fun σ2 M2 => AT B K tt σ2 M2 fun b M3 =>
        (b = true → AE B K te σ2 M3 fun y M4 => ∃ z M5, y = .d z ∧ M4 = M5 ++ [.lst acc] ∧ acc.length < sizeLine ∧ I (i + 1) (acc ++ [z]) M5) ∧ (b = false → ∃ M5, M3 = M5 ++ [.lst acc] ∧ I (i + 1) acc M5)) ∧
      (∀ acc M', I items.length acc M' → Φ (.d (.lst acc)) M')) : AE B K (tLc wi g tt te vs) σ M Φ := ae_lcP I hI gk (fun _ _ _ _ => True.intro) h
end
end Al
namespace Al
open PySem PyProof.Rows L2
variable [Al.TabList]
inductive SV (M : List MO) : AV → List D → Prop
  | lst (l : List D) : SV M (.d (.lst l)) l
  | scr (l : List D) : SV M (.d (.scr l)) l
  | mm {k : Nat} {l : List D} (h : M[k]? = some (.lst l)) : SV M (.m k) l
section
variable {B : Base} {K : PySem.W.Frag} {σ : AEnv} {M : List MO} {ta tb te : TE} {x y : AV} {Φ : AV → List MO → Prop} {W H : Hp} {μ : List Addr}
theorem SV.run {l : List D} {v : V} (h : SV M x l) (s : Sim K W μ M H) (r : RA K W μ x v) : ∃ a vs, v = .ref a ∧ SqL K H a vs ∧ RDs K W l vs := by
  cases h with
  | lst l => obtain ⟨a, vs, rfl, h1, h2⟩ := r; exact ⟨a, vs, rfl, SqL.of (s.sub _ _ h1), h2⟩
  | scr l => obtain ⟨a, vs, rfl, h1, h2⟩ := r; exact ⟨a, vs, rfl, s.sub.seq h1, h2⟩
  | @mm k l hm =>
    obtain ⟨a, ha, rfl⟩ := r
    obtain ⟨vs, h1, h2⟩ := s.ob k a _ ha hm
    exact ⟨a, vs, rfl, SqL.of h1, h2⟩
/-- a list that may be joined to another one -/
inductive SL (M : List MO) : AV → List D → Prop
  | lst (l : List D) : SL M (.d (.lst l)) l
  | mm {k : Nat} {l : List D} (h : M[k]? = some (.lst l)) : SL M (.m k) l
theorem SL.run {l : List D} {v : V} (h : SL M x l) (s : Sim K W μ M H) (r : RA K W μ x v) : ∃ a vs, v = .ref a ∧ H a = some (.lst vs) ∧ RDs K W l vs := by
  cases h with
  | lst l => obtain ⟨a, vs, rfl, h1, h2⟩ := r; exact ⟨a, vs, rfl, s.sub _ _ h1, h2⟩
  | @mm k l hm =>
    obtain ⟨a, ha, rfl⟩ := r
    obtain ⟨vs, h1, h2⟩ := s.ob k a _ ha hm
    exact ⟨a, vs, rfl, h1, h2⟩
theorem ra_one {xs : List V} (r : RAs K W μ [x] xs) : ∃ v, xs = [v] ∧ RA K W μ x v := by
  obtain ⟨v, t, rfl, h, rfl⟩ := r
  exact ⟨v, rfl, h⟩
theorem ra_two {xs : List V} (r : RAs K W μ [x, y] xs) : ∃ v w, xs = [v, w] ∧ RA K W μ x v ∧ RA K W μ y w := by
  obtain ⟨v, t, rfl, h, w, t', rfl, h', rfl⟩ := r
  exact ⟨v, w, rfl, h, h'⟩
theorem ras_cons {l : List AV} {v : V} {vs : List V} (h : RA K W μ x v) (t : RAs K W μ l vs) : RAs K W μ (x :: l) (v :: vs) := ⟨v, vs, rfl, h, t⟩
theorem ac_len {l : List D} (h : SV M x l) (k : Φ (.d (.int (l.length : Int))) M) : AC B K (fun xs H Q => ∃ p ys, xs = [.ref p] ∧ (SqL K H p ys ∨ SqT K H p ys) ∧ Q (.int ys.length) H) [x] M Φ := fun W μ H us o s r Q q => by
  obtain ⟨v, rfl, r'⟩ := ra_one r
  obtain ⟨a, vs, rfl, h1, h2⟩ := h.run s r'
  exact ⟨a, vs, rfl, .inl h1, by rw [← h2.length]; exact q _ _ _ _ _ _ k (.refl o s) rfl⟩
theorem ac_abs {i : Int} (k : Φ (.d (.int (if i < 0 then -i else i))) M) : AC B K (fun xs H Q => ∃ i, xs = [.int i] ∧ Q (.int (if i < 0 then -i else i)) H) [.d (.int i)] M Φ := fun W μ H us o s r Q q => by
  obtain ⟨v, rfl, r'⟩ := ra_one r
  cases r'
  exact ⟨i, rfl, q _ _ _ _ _ _ k (.refl o s) rfl⟩
theorem ac_min {i j : Int} (k : Φ (.d (.int (if j < i then j else i))) M) : AC B K (fun xs H Q => ∃ i j, xs = [.int i, .int j] ∧ Q (.int (if j < i then j else i)) H) [.d (.int i), .d (.int j)] M Φ := fun W μ H us o s r Q q => by
  obtain ⟨v, w, rfl, r1, r2⟩ := ra_two r
  cases r1; cases r2
  exact ⟨i, j, rfl, q _ _ _ _ _ _ k (.refl o s) rfl⟩
theorem ac_max {i j : Int} (k : Φ (.d (.int (if j > i then j else i))) M) : AC B K (fun xs H Q => ∃ i j, xs = [.int i, .int j] ∧ Q (.int (if j > i then j else i)) H) [.d (.int i), .d (.int j)] M Φ := fun W μ H us o s r Q q => by
  obtain ⟨v, w, rfl, r1, r2⟩ := ra_two r
  cases r1; cases r2
  exact ⟨i, j, rfl, q _ _ _ _ _ _ k (.refl o s) rfl⟩
/-- list(xs), that will change -/
theorem ac_listM {l : List D} (h : SV M x l) (k : Φ (.m M.length) (M ++ [.lst l])) : AC B K (fun xs H Q => ∃ p ys, xs = [.ref p] ∧ (SqL K H p ys ∨ SqT K H p ys) ∧ ∀ l, H l = none → Q (.ref l) (upd H l (.lst ys))) [x] M Φ := fun W μ H us o s r Q q => by
  obtain ⟨v, rfl, r'⟩ := ra_one r
  obtain ⟨a, vs, rfl, h1, h2⟩ := h.run s r'
  refine ⟨a, vs, rfl, .inl h1, fun p hp => ?_⟩
  refine q _ _ _ _ _ _ k (go_mut (mo := .lst l) o s hp ⟨vs, upd_same, h2⟩) ⟨p, ?_, rfl⟩
  rw [← s.len, List.getElem?_append_right (Nat.le_refl _)]; simp
theorem ac_tuple {l : List D} (h : SV M x l) (k : Φ (.d (.tup l)) M) : AC B K (fun xs H Q => ∃ p ys, xs = [.ref p] ∧ ((SqL K H p ys ∧ ∀ l, H l = none → Q (.ref l) (upd H l (.tup ys))) ∨ (SqT K H p ys ∧ Q (.ref p) H))) [x] M Φ := fun W μ H us o s r Q q => by
  obtain ⟨v, rfl, r'⟩ := ra_one r
  obtain ⟨a, vs, rfl, h1, h2⟩ := h.run s r'
  refine ⟨a, vs, rfl, .inl ⟨h1, fun p hp => ?_⟩⟩
  have g := go_new (u := .tup vs) o s hp
  exact q _ _ _ _ _ _ k g ⟨p, vs, rfl, .inl (.inl upd_same), h2.mono g.wext⟩
/-- xs + ys -/
theorem ar_cat {l m : List D} (h : SL M x l) (h' : SL M y m) (hz : l.length + m.length ≤ sizeLine) (k : Φ (.d (.lst (l ++ m))) M) : AR B K rCat x y M Φ := fun W μ H u w o s hu hw Q q => by
  obtain ⟨a, vs, rfl, h1, h2⟩ := h.run s hu
  obtain ⟨b, ws, rfl, h3, h4⟩ := h'.run s hw
  refine ⟨a, b, vs, ws, rfl, rfl, h1, h3, by rw [← h2.length, ← h4.length]; exact hz, fun p hp => ?_⟩
  have g := go_new (u := .lst (vs ++ ws)) o s hp
  exact q _ _ _ _ _ _ k g ⟨p, _, rfl, upd_same, (h2.append h4).mono g.wext⟩
mutual
def D.pure : D → Bool
  | .non => true
  | .bl _ => true
  | .int _ => true
  | .str _ => true
  | .tup l => D.pures l
  | .lst l => D.pures l
  | .scr l => D.pures l
  | .ty _ => false
  | .adr _ => false
  | .ins _ _ _ => false
  | .clo _ _ => false
  | .dT _ _ => false
  | .dK _ _ => false
  | .key _ => true
  | .exc _ _ _ _ _ => false
def D.pures : List D → Bool
  | [] => true
  | d :: l => d.pure && D.pures l
end
/-- a key's part -/
def keyP : Key → PyData | .inl i => .int i | .inr x => .str x
mutual
def toP : D → PyData
  | .non => .none
  | .bl b => .bool b
  | .int i => .int i
  | .str s => .str s
  | .tup l => .tuple (toPs l)
  | .lst l => .list (toPs l)
  | .scr l => .list (toPs l)
  | .ty _ => .none
  | .adr _ => .none
  | .ins _ _ _ => .none
  | .clo _ _ => .none
  | .dT _ _ => .none
  | .dK _ _ => .none
  | .key ks => .tuple (ks.map keyP)
  | .exc _ _ _ _ _ => .none
def toPs : List D → List PyData
  | [] => []
  | d :: l => toP d :: toPs l
end
theorem dps_keys : ∀ ks : List Key, DpAll K H (ks.map kV) (ks.map keyP)
  | [] => .nil
  | .inl i :: ks => .cons (.int _) (dps_keys ks)
  | .inr x :: ks => .cons (.str _) (dps_keys ks)
mutual
theorem dp_of (e : Same W H) : ∀ {d : D} {v : V}, d.pure = true → RD K W d v → Dp K H v (toP d)
  | .non, _, _, h => by cases h; exact .non
  | .bl _, _, _, h => by cases h; exact .bl _
  | .int _, _, _, h => by cases h; exact .int _
  | .str _, _, _, h => by cases h; exact .str _
  | .ty _, _, hp, h => by cases hp
  | .adr _, _, hp, h => by cases hp
  | .ins _ _ _, _, hp, h => by cases hp
  | .clo _ _, _, hp, h => by cases hp
  | .dT _ _, _, hp, h => by cases hp
  | .dK _ _, _, hp, h => by cases hp
  | .key ks, _, _, ⟨a, e1, h⟩ => by subst e1; exact .tup (.inl (.inl (e _ _ h))) (dps_keys ks)
  | .exc _ _ _ _ _, _, hp, h => by cases hp
  | .tup l, _, hp, ⟨a, vs, e1, h, r⟩ => by subst e1; exact .tup (sqt_mono e h) (dps_of e hp r)
  | .lst l, _, hp, ⟨a, vs, e1, h, r⟩ => by subst e1; exact .lst (SqL.of (e _ _ h)) (dps_of e hp r)
  | .scr l, _, hp, ⟨a, vs, e1, h, r⟩ => by subst e1; exact .lst (e.seq h) (dps_of e hp r)
theorem dps_of (e : Same W H) : ∀ {l : List D} {vs : List V}, D.pures l = true → RDs K W l vs → DpAll K H vs (toPs l)
  | [], _, _, h => by cases h; exact .nil
  | d :: l, _, hp, ⟨v, r, e1, h, t⟩ => by
    subst e1
    have hp : (d.pure && D.pures l) = true := hp
    rw [Bool.and_eq_true] at hp
    exact .cons (dp_of e hp.1 h) (dps_of e hp.2 t)
end
/-- data that == is asked of -/
inductive PV (M : List MO) : AV → PyData → Prop
  | d {x : D} (h : x.pure = true) : PV M (.d x) (toP x)
  | mm {k : Nat} {l : List D} (h : M[k]? = some (.lst l)) (hp : D.pures l = true) : PV M (.m k) (.list (toPs l))
theorem PV.run {p : PyData} {v : V} (h : PV M x p) (s : Sim K W μ M H) (r : RA K W μ x v) : Dp K H v p := by
  cases h with
  | d h => exact dp_of s.sub h r
  | @mm k l hm hp =>
    obtain ⟨a, ha, rfl⟩ := r
    obtain ⟨vs, h1, h2⟩ := s.ob k a _ ha hm
    exact .lst (SqL.of h1) (dps_of s.sub hp h2)
theorem ar_neD {p q : PyData} (hx : PV M x p) (hy : PV M y q) (h1 : SeqAt.shaped p = true) (h2 : SeqAt.shaped q = true) (k : Φ (.d (.bl (!PyData.eqv p q))) M) : AR B K (rNeD K) x y M Φ := fun W μ H u w o s hu hw Q qq =>
  ⟨p, q, hx.run s hu, hy.run s hw, h1, h2, qq _ _ _ _ _ _ k (.refl o s) rfl⟩
/-- what isinstance asks of a class of the program whose instances are looked at -/
structure InsC (K : PySem.W.Frag) (C : Addr) : Prop where
  cl : Cls K C
  ha : PySem.W.findIn K (.ref C) "__class__" = some (some (.builtin "object.__class__"))
  hn : PySem.W.specialIn K (.builtin "object.__class__") "__get__" = some (some (.builtin "getset_descriptor.__get__"))
  htk : PySem.W.takesIn K (.builtin "object.__class__") = some true
  hm : PySem.W.mroIn K C (.type "object") = some true
def tyD : D → Value
  | .non => .type "NoneType"
  | .bl _ => .type "bool"
  | .int _ => .type "int"
  | .str _ => .type "str"
  | .tup _ => .type "tuple"
  | .lst _ => .type "list"
  | .scr _ => .type "list"
  | .ins C _ _ => .ref C
  | .adr _ => .none
  | .ty _ => .none
  | .clo _ _ => .type "function"
  | .dT _ _ => .type "dict"
  | .dK _ _ => .type "dict"
  | .key _ => .type "tuple"
  | .exc _ _ _ _ _ => .none
def TyK (K : PySem.W.Frag) : D → Prop
  | .ins C _ _ => InsC K C
  | .adr _ => False
  | .ty _ => False
  | .clo _ _ => False
  | .exc _ _ _ _ _ => False
  | .dT _ _ => False
  | .dK _ _ => False
  | _ => True
theorem tyx_of {d : D} {v : V} (e : Same W H) (hk : TyK K d) (h : RD K W d v) : TyX K H v (tyD d) := by
  cases d with
  | non => cases h; exact .base .non
  | bl b => cases h; exact .base (.bl _)
  | int b => cases h; exact .base (.int _)
  | str b => cases h; exact .base (.str _)
  | ty b => exact hk.elim
  | adr b => exact hk.elim
  | clo a u => exact hk.elim
  | dT ks l => exact hk.elim
  | dK ks l => exact hk.elim
  | key ks =>
    obtain ⟨a, rfl, h1⟩ := h
    exact .base (.tup (e _ _ h1))
  | exc a dx C ns l => exact hk.elim
  | tup l =>
    obtain ⟨a, vs, rfl, h1, _⟩ := h
    rcases sqt_mono e h1 with (h1 | ⟨o, h1⟩) | ⟨o, its, n, h1, h2, _⟩
    · exact .base (.tup h1)
    · exact .fTuple h1
    · exact .kTuple h1 h2
  | lst l =>
    obtain ⟨a, vs, rfl, h1, _⟩ := h
    exact .base (.lst (e _ _ h1))
  | scr l =>
    obtain ⟨a, vs, rfl, h1, _⟩ := h
    rcases e.seq h1 with (h1 | ⟨o, h1⟩) | ⟨o, its, n, h1, h2, _⟩
    · exact .base (.lst h1)
    · exact .base (.frz h1)
    · exact .kList h1 h2
  | ins C ns l =>
    obtain ⟨a, dx, vs, rfl, h1, _⟩ := h
    exact .base (.ins (e _ _ h1) hk.cl hk.ha hk.hn hk.htk hk.hm)
theorem ac_isiB {d : D} {n : String} {b : Bool} (hk : TyK K d) (hb : PySem.W.kitOne K (tyD d) (.type n) = some b) (k : Φ (.d (.bl b)) M) : AC B K (rIsi K) [.d d, .d (.ty n)] M Φ := fun W μ H us o s r Q q => by
  obtain ⟨v, w, rfl, r1, r2⟩ := ra_two r
  cases r2
  exact ⟨v, _, tyD d, .type n, b, rfl, .ty n, tyx_of s.sub hk r1, hb, q _ _ _ _ _ _ k (.refl o s) rfl⟩
theorem ac_isiC {d : D} {C : Addr} {b : Bool} (hk : TyK K d) (hb : PySem.W.kitOne K (tyD d) (.ref C) = some b) (k : Φ (.d (.bl b)) M) : AC B K (rIsi K) [.d d, .d (.adr C)] M Φ := fun W μ H us o s r Q q => by
  obtain ⟨v, w, rfl, r1, r2⟩ := ra_two r
  cases r2
  exact ⟨v, _, tyD d, .ref C, b, rfl, .own C, tyx_of s.sub hk r1, hb, q _ _ _ _ _ _ k (.refl o s) rfl⟩
theorem lookup_zip_none {m : Str} : ∀ {ns : List Str} {vs : List V}, m ∉ ns → (ns.zip vs).lookup m = none
  | [], _, _ => rfl
  | n :: ns, [], _ => rfl
  | n :: ns, v :: vs, h => by
    rw [List.zip_cons_cons, List.lookup_cons]
    have : (m == n) = false := beq_eq_false_iff_ne.mpr fun e => h (by rw [e]; exact List.mem_cons_self)
    rw [this]
    exact lookup_zip_none fun z => h (List.mem_cons_of_mem _ z)
theorem ae_meth {asp : ASp} {C : Addr} {m : Str} {dvs : List V} {das : List AV} {E : XK} {t : TA} {Ψ : Exc → List MO → Prop} (mono : Mono asp) (qe : EFits B K Ψ E) (hd : ∀ W μ, RAs K W μ das dvs)
    (h : AE B K ta σ M fun x M1 => ∃ ns l, x = .d (.ins C ns l) ∧ m ∉ ns ∧ AA B K t σ M1 fun xs M2 => Sent asp (x :: (xs ++ das)) M2 Φ Ψ) : AE B K (tMeth C m (conc K asp) dvs E ta t) σ M Φ := fun W μ H τ o s e Q q =>
  h W μ H τ o s e _ fun x M1 W1 μ1 H1 v ⟨ns, l, e1, hm, p⟩ f1 r1 => by
    subst e1
    have r1' := r1
    obtain ⟨a, dx, vs, rfl, h1, h2, h3⟩ := r1
    refine ⟨a, dx, ns.zip vs, rfl, f1.sim.sub _ _ h1, lookup_zip_none hm, p W1 μ1 H1 τ f1.ok f1.sim (f1.re e) _ fun xs M2 W2 μ2 H2 ws p2 f2 r2 => ?_⟩
    exact sent_run mono f2.ok f2.sim (ras_cons (f2.ra r1') (RAs.append r2 (hd _ _))) p2 (fun z M' W' μ' H' v p3 f3 r3 => q _ _ _ _ _ _ p3 ((f1.trans f2).trans f3) r3) qe
/-- what a new instance is, at its __init__: the last mutable object -/
theorem go_made {C x dx : Addr} (o : Ok B W μ H) (s : Sim K W μ M H) (hx : H x = none) (hdx : H dx = none) (ne : dx ≠ x) : ∃ W', Go B K W μ W' (μ ++ [x]) (M ++ [.ins C [] []]) (upd (upd H dx (.own x)) x (.ins C dx [])) := by
  have g1 := go_new (u := .own x) o s hdx
  have g2 := go_mut (p := x) (u := .ins C dx []) (mo := .ins C [] []) g1.ok g1.sim (by rw [upd_ne ne.symm]; exact hx) ⟨dx, [], upd_same, rfl, rfl⟩
  exact ⟨_, g1.trans g2⟩
/-- the new instance is frozen behind its __init__ -/
def MadeOk (C : Addr) (n : Nat) (Φ : AV → List MO → Prop) : AV → List MO → Prop := fun z M2 => z = .d .non ∧ ∃ ns l M3, M2 = M3 ++ [.ins C ns (l.map AV.d)] ∧ M3.length = n ∧ (∀ o ∈ M3, o.below n = true) ∧ Φ (.d (.ins C ns l)) M3
theorem made_run {C x : Addr} {W1 : Hp} {μ1 : List Addr} {M1 : List MO} {H1 : Hp} {Q : VK} (f1 : Go B K W μ W1 μ1 M1 H1) (hn : μ1.length = M1.length)
    (q : ∀ z M' W' μ' H' v, Φ z M' → Go B K W μ W' μ' M' H' → RA K W' μ' z v → Q v H') :
    ∀ z M' W' μ' H' v Wm Hm, Go B K W1 μ1 Wm (μ1 ++ [x]) (M1 ++ [.ins C [] []]) Hm → MadeOk C M1.length Φ z M' → Go B K Wm (μ1 ++ [x]) W' μ' M' H' → RA K W' μ' z v → v = .non ∧ Q (.ref x) H' := by
  intro z M' W' μ' H' v Wm Hm gm ⟨ez, ns, l, M3, eM, h3, hb, p⟩ g r
  subst ez; subst eM
  cases r
  refine ⟨rfl, ?_⟩
  obtain ⟨e', he'⟩ := g.mext
  have hz := g.sim.len
  rw [he'] at hz
  have : e'.length = 0 := by simp at hz; omega
  rw [List.eq_nil_of_length_eq_zero this, List.append_nil] at he'
  subst he'
  have hk : (μ1 ++ [x])[M1.length]? = some x := by rw [← hn, List.getElem?_append_right (Nat.le_refl _), Nat.sub_self]; rfl
  obtain ⟨dx, vs, w1, w2, w3⟩ := g.sim.ob M1.length x (.ins C ns (l.map AV.d)) hk (by rw [← h3, List.getElem?_append_right (Nat.le_refl _), Nat.sub_self]; rfl)
  have hB : B.μ0.length ≤ M1.length := by
    obtain ⟨ext, e1, _⟩ := f1.ok.pre
    rw [← hn, e1, List.length_append]; omega
  have gg := gm.trans g
  have et : (M3 ++ [MO.ins C ns (l.map AV.d)]).take M1.length = M3 := by rw [List.take_append_of_le_length (by omega), List.take_of_length_le (by omega)]
  have eμ : (μ1 ++ [x]).take M1.length = μ1 := by rw [List.take_append_of_le_length (by omega), List.take_of_length_le (by omega)]
  have g3 := go_frz gg (Nat.le_of_eq hn) hB (fun o ho => hb o (by rw [et] at ho; exact ho)) (Nat.le_refl _) hk w1
  rw [et, eμ] at g3
  exact q _ _ _ _ _ _ p (f1.trans g3) ⟨x, dx, vs, rfl, upd_same, by simpa using w2, RDs.mono (same_upd (g.sim.out x (List.mem_of_getElem? hk))) w3.of_ds⟩
theorem ae_make {asp : ASp} {C : Addr} {dvs : List V} {das : List AV} {E : XK} {t : TA} {Ψ : Exc → List MO → Prop} (mono : Mono asp) (qe : EFits B K Ψ E) (hd : ∀ W μ, RAs K W μ das dvs)
    (h : AA B K t σ M fun xs M1 => Sent asp (.m M1.length :: (xs ++ das)) (M1 ++ [.ins C [] []]) (MadeOk C M1.length Φ) Ψ) : AE B K (tMake C (conc K asp) dvs E t) σ M Φ := fun W μ H τ o s e Q q =>
  h W μ H τ o s e _ fun xs M1 W1 μ1 H1 vs p f1 r1 x dx hx hdx ne => by
    obtain ⟨Wm, gm⟩ := go_made (C := C) f1.ok f1.sim hx hdx ne
    have rx : RA K Wm (μ1 ++ [x]) (.m M1.length) (.ref x) := ⟨x, by rw [← f1.sim.len, List.getElem?_append_right (Nat.le_refl _), Nat.sub_self]; rfl, rfl⟩
    refine sent_run mono gm.ok gm.sim (ras_cons rx (RAs.append (gm.ras r1) (hd _ _))) p (fun z M' W' μ' H' v p2 g r => ?_) qe
    exact made_run f1 f1.sim.len q z M' W' μ' H' v Wm _ gm p2 g r
end
end Al
namespace Ow
open PySem PySem.Spec PyProof.Rows PySem.SeqAt
open AutoSeq1 (wpAny_loadPart')
end Ow
namespace Ow
open PySem PySem.Spec PyProof.Rows PySem.SeqAt PySem.W
open AutoSeq1 (wpAny_loadPart')
end Ow
namespace Ow
open PySem PySem.Spec PyProof.Rows PySem.SeqAt PySem.W
open AutoSeq1 (wpAny_loadPart')
open MeetsSeq MeetsSeq2 MeetsSeq3 SeqRoads2
end Ow
namespace Ow
open PySem PySem.Spec PyProof.Rows L2
end Ow
namespace Ow
open PySem PySem.Spec PyProof.Rows L2
end Ow
namespace Al
open PySem PyProof.Rows L2 Ow
variable [Al.TabList]
section
variable {B : Base} {K : PySem.W.Frag} {σ : AEnv} {M : List MO} {x y : AV} {Φ : AV → List MO → Prop} {C : Addr} {asp : ASp} {E : XK} {Ψ : Exc → List MO → Prop}
theorem ras_nil {W : Hp} {μ : List Addr} : RAs K W μ [] [] := rfl
end
end Al
namespace Al
open PySem PyProof.Rows L2
variable [Al.TabList]
section
variable {B : Base} {K : PySem.W.Frag} {σ : AEnv} {M : List MO} {x y : AV} {Φ : AV → List MO → Prop} {C : Addr} {asp : ASp} {E : XK} {Ψ : Exc → List MO → Prop}
theorem map_ren {n : Nat} {ks : List Nat} (ys : List D) : (ys.map AV.d).map (renV n ks) = ys.map AV.d := by
  rw [List.map_map]; rfl
theorem all_below (ys : List D) (n : Nat) : (ys.map AV.d).all (AV.below n) = true := by
  rw [List.all_map]; exact List.all_eq_true.mpr fun _ _ => rfl
/-- a call with data alone -/
theorem sent0 {ys : List D} (mono : Mono asp) (h : asp (ys.map AV.d) [] (fun x M' => M' = [] ∧ ∃ d, x = .d d ∧ Φ (.d d) M) (fun x M' => M' = [] ∧ Ψ x M)) : Sent asp (ys.map AV.d) M Φ Ψ := by
  refine ⟨[], ys.map AV.d, .nil, rfl, rfl, (map_ren ys).symm, all_below ys _, mono _ _ _ _ _ _ (fun x M' ⟨e, d, ex, p⟩ => ?_) (fun x M' ⟨e, p⟩ => ?_) h⟩
  · subst e; subst ex
    exact ⟨[], [], rfl, rfl, by show Φ (.d d) (putK M [] [] ++ []); rw [List.append_nil]; unfold putK; exact p⟩
  · subst e
    exact ⟨[], [], rfl, rfl, by show Ψ x (putK M [] [] ++ []); rw [List.append_nil]; unfold putK; exact p⟩
/-- a call with one mutable list, the k-th, which the callee may change -/
theorem sent1 {k : Nat} {l : List D} {xs xs' : List AV} (mono : Mono asp) (hk : M[k]? = some (.lst l)) (hx : xs = xs'.map (renV M.length [k])) (hb : xs'.all (AV.below 1) = true)
    (h : asp xs' [.lst l] (fun x M' => ∃ l' d, M' = [.lst l'] ∧ x = .d d ∧ Φ (.d d) (M.set k (.lst l'))) (fun x M' => ∃ l', M' = [.lst l'] ∧ Ψ x (M.set k (.lst l')))) : Sent asp xs M Φ Ψ := by
  have hl := (List.getElem?_eq_some_iff.mp hk).1
  have hg : M.getD k (.lst []) = .lst l := by rw [List.getD, hk]; rfl
  have e : subK M [k] = [.lst l] := by show [M.getD k (.lst [])] = _; rw [hg]
  refine ⟨[k], xs', by simp, by simpa using hl, by show ((M.getD k (.lst [])).isD && true) = true; rw [hg]; rfl, hx, hb, ?_⟩
  rw [e]
  refine mono _ _ _ _ _ _ (fun x M' z => ?_) (fun x M' z => ?_) h
  · obtain ⟨l', d, e, ex, p⟩ := z
    subst e; subst ex
    exact ⟨[.lst l'], [], rfl, rfl, by show Φ (.d d) (putK M [k] [.lst l'] ++ []); rw [List.append_nil]; unfold putK; unfold putK; exact p⟩
  · obtain ⟨l', e, p⟩ := z
    subst e
    exact ⟨[.lst l'], [], rfl, rfl, by show Ψ x (putK M [k] [.lst l'] ++ []); rw [List.append_nil]; unfold putK; unfold putK; exact p⟩
/-- a call with data alone that hands back a new mutable list -/
theorem sentN {ys : List D} (mono : Mono asp) (h : asp (ys.map AV.d) [] (fun x M' => ∃ l, M' = [.lst l] ∧ x = .m 0 ∧ Φ (.m M.length) (M ++ [.lst l])) (fun x M' => M' = [] ∧ Ψ x M)) : Sent asp (ys.map AV.d) M Φ Ψ := by
  refine ⟨[], ys.map AV.d, .nil, rfl, rfl, (map_ren ys).symm, all_below ys _, mono _ _ _ _ _ _ (fun x M' ⟨l, e, ex, p⟩ => ?_) (fun x M' ⟨e, p⟩ => ?_) h⟩
  · subst e; subst ex
    exact ⟨[], [.lst l], rfl, rfl, by show Φ (.m (M.length + 0)) (putK M [] [] ++ [.lst l]); unfold putK; exact p⟩
  · subst e
    exact ⟨[], [], rfl, rfl, by show Ψ x (putK M [] [] ++ []); rw [List.append_nil]; unfold putK; exact p⟩
/-- a new instance made of data -/
theorem sentI {ys : List D} (mono : Mono asp) (hM : ∀ o ∈ M, o.below M.length = true)
    (h : asp (.m 0 :: ys.map AV.d) [.ins C [] []] (fun x M' => x = .d .non ∧ ∃ ns l, M' = [.ins C ns (l.map AV.d)] ∧ Φ (.d (.ins C ns l)) M) (fun x M' => ∃ o, M' = [o] ∧ Ψ x (M ++ [renO (M.length + 1) [M.length] o]))) :
    Sent asp (.m M.length :: ys.map AV.d) (M ++ [.ins C [] []]) (MadeOk C M.length Φ) Ψ := by
  have hp : ∀ o : MO, putK (M ++ [.ins C [] []]) [M.length] [o] = M ++ [o] := fun o => by
    unfold putK; unfold putK
    rw [List.set_append_right _ _ (Nat.le_refl _), Nat.sub_self]; rfl
  have hg : (M ++ [MO.ins C [] []]).getD M.length (.lst []) = .ins C [] [] := by
    rw [List.getD, List.getElem?_append_right (Nat.le_refl _), Nat.sub_self]; rfl
  have e : subK (M ++ [MO.ins C [] []]) [M.length] = [.ins C [] []] := by show [(M ++ [MO.ins C [] []]).getD M.length (.lst [])] = _; rw [hg]
  refine ⟨[M.length], .m 0 :: ys.map AV.d, by simp, by simp, by show ((((M ++ [MO.ins C [] []]).getD M.length (.lst [])).isD) && true) = true; rw [hg]; rfl, by rw [List.map_cons, map_ren]; rfl, by rw [List.all_cons, all_below]; rfl, ?_⟩
  rw [e]
  refine mono _ _ _ _ _ _ (fun x M' z => ?_) (fun x M' z => ?_) h
  · obtain ⟨ex, ns, l, e, p⟩ := z
    subst e; subst ex
    refine ⟨[.ins C ns (l.map AV.d)], [], rfl, rfl, rfl, ns, l, M, ?_, rfl, hM, p⟩
    show putK (M ++ [.ins C [] []]) [M.length] [renO _ _ (.ins C ns (l.map AV.d))] ++ [] = _
    rw [List.append_nil, hp]
    show M ++ [MO.ins C ns ((l.map AV.d).map (renV _ _))] = _
    rw [map_ren]
  · obtain ⟨o, e, p⟩ := z
    subst e
    refine ⟨[o], [], rfl, rfl, ?_⟩
    show Ψ x (putK (M ++ [.ins C [] []]) [M.length] [renO _ _ o] ++ [])
    rw [List.append_nil, hp, List.length_append]
    exact p
theorem ae_call0 {ta : TA} (mono : Mono asp) (qe : EFits B K Ψ E) (h : AA B K ta σ M fun xs M1 => Sent asp xs M1 Φ Ψ) : AE B K (tCall (conc K asp) [] E ta) σ M Φ :=
  ae_call (das := []) mono qe (fun _ _ => rfl) fun W μ H τ o s e Q q => h W μ H τ o s e Q fun x M' W' μ' H' v p => q x M' W' μ' H' v (by dsimp only; rw [List.append_nil]; exact p)
theorem au_i {g : Int → Int} {i : Int} (k : Φ (.d (.int (g i))) M) : AU B K (rU fun i => .int (g i)) (.d (.int i)) M Φ := fun W μ H u o s r Q q => by
  cases r
  exact ⟨i, rfl, q _ _ _ _ _ _ k (.refl o s) rfl⟩
/-- C(.., k = v): the parameters' values zs by what is written -/
theorem ae_makeL {n m : Nat} {gV : List V → List V → List V} {t tk : TA} (mono : Mono asp) (qe : EFits B K Ψ E)
    (h : AA B K t σ M fun xs M1 => AA B K tk σ M1 fun ys M2 => xs.length = n ∧ ys.length = m ∧ ∃ zs : List AV, (∀ W μ v vs ws, RA K W μ (.m M2.length) v → RAs K W μ xs vs → RAs K W μ ys ws → RAs K W μ zs (gV (v :: vs) ws)) ∧ Sent asp zs (M2 ++ [.ins C [] []]) (MadeOk C M2.length Φ) Ψ) : AE B K (tMakeK C n m (conc K asp) gV E t tk) σ M Φ := fun W μ H τ o s e Q q =>
  h W μ H τ o s e _ fun xs M1 W1 μ1 H1 vs p f1 r1 => p W1 μ1 H1 τ f1.ok f1.sim (f1.re e) _ fun ys M2 W2 μ2 H2 ws ⟨l1, l2, zs, hz, p2⟩ f2 r2 => ⟨by rw [← r1.length]; exact l1, by rw [← r2.length]; exact l2, fun x dx hx hdx ne => by
    obtain ⟨Wm, gm⟩ := go_made (C := C) f2.ok f2.sim hx hdx ne
    have rx : RA K Wm (μ2 ++ [x]) (.m M2.length) (.ref x) := ⟨x, by rw [← f2.sim.len, List.getElem?_append_right (Nat.le_refl _), Nat.sub_self]; rfl, rfl⟩
    refine sent_run mono gm.ok gm.sim (hz _ _ _ _ _ rx (gm.ras (f2.ras r1)) (gm.ras r2)) p2 (fun z M' W' μ' H' v p3 g r => ?_) qe
    exact made_run (f1.trans f2) f2.sim.len q z M' W' μ' H' v Wm _ gm p3 g r⟩
/-- a word between a statement and what follows -/
theorem as_cut {t u : TS} {Φ : AEnds} (Mid : AEnv → List MO → Prop) (h1 : AS B K t σ M { Φ with nx := Mid }) (h2 : ∀ σ' M', Mid σ' M' → AS B K u σ' M' Φ) : AS B K (tSeq t u) σ M Φ :=
  as_seq (h1.imp h2 (fun _ _ h => h) (fun _ _ h => h) (fun _ _ h => h))
end
section
variable {P : Program} {w : World} {K : PySem.W.Frag} {mg : Str → Option Value} {base : Heap}
/-- a def with defaults -/
theorem fn_alD {x qual : Str} {params : Arguments} {body : List Stmt} {scope : Scope} {dvs : List V} {kws : List (Str × V)} {f : Addr} {fd : FuncData} {N ps : List Str} {k : Nat} {asp : ASp} {CX : CXT} (F : FunD K x qual params body scope dvs kws f fd) (S : FnScope N ps scope) (len : ∀ xs M Φ Ψ, asp xs M Φ Ψ → xs.length = ps.length)
    (hbody : ∀ (cdv : Value) (A : Around) (outer : List Env) (s : Shared) (H : Hp) (E : XK), Room k (A.deeper (envOfC qual scope s.heap.objs.size f cdv)) →
      ∃ t, PSs (cxOf CX P w K mg base N qual scope f cdv A outer s H E) body t ∧ ∀ (B : Base) xs M Φ Ψ, B.μ0.length = M.length → asp xs M Φ Ψ → EFits B K (XT M.length Ψ) E → AS B K t (startA N xs) M (defEnds M.length Φ)) : FnOk P w K mg base CX (k + 1) f fd ps (conc K asp) := by
  refine F.ok S (fun vs H Q E h => ?_) (fun cdv A outer s H vs Q E hr h => ?_)
  · obtain ⟨W, μ, M, xs, _, r, ha⟩ := h
    rw [← r.length]; exact len _ _ _ _ ha
  · obtain ⟨t, h1, h2⟩ := hbody cdv A outer s H E hr
    exact ⟨t, h1, conc_body (B0 := Unit) h h2⟩
end
end Al
namespace Gx
open PySem PySem.W PySem.Calls PyProof.Rows PySem.HandSPX L2
/-- what is asked of the built-in base -/
structure BaseX (B newId initId : String) (bmB : List Value) : Prop where
  ex : ExcBaseFacts B newId initId bmB
  sf : StoreFacts B bmB "object.__setattr__" "object"
/-- an own exception class -/
structure GexC (K : PySem.W.Frag) (C : Addr) : Prop where
  cls : ∃ B newId initId bmB, BaseX B newId initId bmB ∧ excInitIn K C bmB newId = true ∧ excOver K C bmB = true
  hd : hasDictIn K C = true
  sa : findIn K (.ref C) "__setattr__" = some (some (.builtin "object.__setattr__"))
  exC : subIn K (.ref C) (.type "BaseException") = some true
  tyC : typeIn K (.ref C) = some (.type "type")
  kC : keepIn K (.ref C) = true
theorem taker_no {K : Frag} {C : Addr} {f : Str} (h : findIn K (.ref C) f = some none) : takerIn K C f = some none := by
  unfold takerIn
  rw [h]
  rfl
section
open Builtin Builtin.ObjectAttr
variable {prog : Program} {w : World} {A : Around} {R : Result → Shared → Prop} {hp : Heap} {g : Array GenState} {d : Drawn} {t : Nat} {os : OsState}
/-- the first store -/
theorem put_first {K : Frag} {f : Str} {tk : Tok} {v : Value} {x C : Addr} {fv : Array Value} (T : GexC K C) (X : K.In hp) (hx : hp.get? x = some { cls := .ref C, data := .fields fv }) (hf : findIn K (.ref C) f = some none)
    (q : ∀ h' tk' dx, (∀ b o, b ≠ x → hp.get? b = some o → h'.get? b = some o) → hp.objs.size ≤ dx → dx ≠ x → h'.get? x = some { cls := .ref C, dict := some dx, data := .fields fv } →
      h'.Ns1 dx (fun y => if y = f then some v else none) → R (.ok (.ret .none)) ⟨h', g, d, tk', os⟩) :
    codeAny (model prog w) A (.call (.builtin "object.__setattr__") ⟨[.ref x, .str f tk, v], []⟩) R ⟨hp, g, d, t, os⟩ := by
  obtain ⟨B, newId, initId, bmB, FB, h1, h2⟩ := T.cls
  have ne : x ≠ hp.objs.size := Nat.ne_of_lt (Heap.lt_size hx)
  obtain ⟨cd, hcd, hh⟩ := any_some T.hd
  have Lc : Looks (model prog w) hp (classData C) cd := looks_clsIn X hcd
  refine osa_openX (s := ⟨hp, g, d, t, os⟩) (r := none) FB.sf X (od := none) ⟨hx, rfl, rfl, trivial⟩ h2 (taker_no hf) fun b => ?_
  obtain ⟨nm, bs, mro, ns, qn, hd, sn, sb, ab, col, del⟩ := cd
  dsimp only at hh
  subst hh
  show wpAny _ _ (storeInOwnDict (.ref x) (.ref C) (.str f tk) f v b) _ _ _
  unfold storeInOwnDict ownDictForStores
  repeat (first | with_reducible refine store_in_new ?_ ?_ | with_reducible refine wpAny_loadPart_at hx ?_ | with_reducible refine Lc.at ?_ | wp_step)
  · exact ⟨_, #[], _, (Heap.get?_update_ne _ _ _ _ ne.symm).trans (Heap.get?_push_at rfl rfl), rfl, fun e he => absurd he (by simp), fun _ => rfl⟩
  · intro h' tk' hn hs
    have hx1 : (hp.push { cls := .type "dict", data := .dict #[] }).get? x = some { cls := .ref C, data := .fields fv } := Heap.get?_push_of_some _ hx
    refine q h' tk' hp.objs.size (fun b o hb ho => ?_) (Nat.le_refl _) ne.symm ((hs.2 x ne).trans (Heap.get?_update_self _ hx1 rfl)) hn
    exact (hs.2 b (Nat.ne_of_lt (Heap.lt_size ho))).trans ((Heap.get?_update_ne _ _ _ _ hb).trans (Heap.get?_push_of_some _ ho))
/-- a later one -/
theorem put_more {K : Frag} {f : Str} {tk : Tok} {v : Value} {x C dx : Addr} {fv : Array Value} {m0 : Str → Option Value} {nl : List Str} (T : GexC K C) (X : K.In hp) (hx : hp.get? x = some { cls := .ref C, dict := some dx, data := .fields fv })
    (hns : hp.Ns1 dx m0) (hw : Within m0 nl) (hz : nl.length ≤ 1000) (hf : findIn K (.ref C) f = some none)
    (q : ∀ h' tk', (∀ b o, b ≠ dx → hp.get? b = some o → h'.get? b = some o) → h'.Ns1 dx (fun y => if y = f then some v else m0 y) → R (.ok (.ret .none)) ⟨h', g, d, tk', os⟩) :
    codeAny (model prog w) A (.call (.builtin "object.__setattr__") ⟨[.ref x, .str f tk, v], []⟩) R ⟨hp, g, d, t, os⟩ := by
  obtain ⟨B, newId, initId, bmB, FB, h1, h2⟩ := T.cls
  obtain ⟨cd, hcd, hh⟩ := any_some T.hd
  have Lc : Looks (model prog w) hp (classData C) cd := looks_clsIn X hcd
  obtain ⟨oD, _, _, hoD, _, _⟩ := hns.count hw
  refine osa_openX (s := ⟨hp, g, d, t, os⟩) (r := none) FB.sf X (od := some oD) ⟨hx, rfl, rfl, hoD⟩ h2 (taker_no hf) fun b => ?_
  obtain ⟨nm, bs, mro, ns, qn, hd, sn, sb, ab, col, del⟩ := cd
  dsimp only at hh
  subst hh
  show wpAny _ _ (storeInOwnDict (.ref x) (.ref C) (.str f tk) f v b) _ _ _
  unfold storeInOwnDict ownDictForStores
  repeat (first | with_reducible refine PySem.OEX.store_in_old hns hw hz ?_ | with_reducible refine wpAny_loadPart_at hx ?_ | with_reducible refine Lc.at ?_ | wp_step)
  intro h' tk' hn hs
  exact q h' tk' (fun b o hb ho => (hs.2 b hb).trans ho) hn
end
end Gx
namespace Gx
open PySem PySem.W PySem.Calls PyProof.Rows PySem.HandSPX L2
/-- the text of an __init__(self, fs..) -/
structure IniT (st : Stmt) (qual : Str) (fs : List Str) : Prop where
  kd : (defScope st).kind = .function
  kc : (defScope st).isCoroutine = false
  kg : (defScope st).isGenerator = false
  db : ∀ x, x ∈ ("self" : Str) :: fs → (x == ("__debug__" : Str)) = false
  lk : ∀ (L a : Addr) (cd : Value) (x : Str), x ∈ ("self" : Str) :: fs → (envOfC qual (defScope st) L a cd).kindOf x = some .local
  al : ∀ us : List Value, us.length = fs.length + 1 → (((("self" : Str) :: fs).zip us).all fun y => (defScope st).names.lookup y.1 == some .local || (defScope st).names.lookup y.1 == some .cell) = true
  bl : ∀ (L a : Addr) (cd : Value) (us : List Value), us.length = fs.length + 1 → ∀ (i : Nat) (x : Str) (u : Value), (("self" : Str) :: fs)[i]? = some x → us[i]? = some u →
    bindL (envOfC qual (defScope st) L a cd).kindOf ((("self" : Str) :: fs).zip us) (fun _ => none) x = some u
theorem see {M : Model} {s : Shared} {name : Str} {scope : Scope} {L a : Addr} {cd : Value} {m : Str → Option Value} {x : Str} {pos : Pos} {v : Value} {Q : Value → Shared → Prop} {A : Around} {E : Value → Shared → Prop} (hn : s.heap.Ns L m) (hv : m x = some v)
    (hk : scope.kind = .function) (hl : (envOfC name scope L a cd).kindOf x = some .local) (hd : (x == ("__debug__" : Str)) = false) (h : Q v s) :
    wpAny M A (eval (.Name x pos) (envOfC name scope L a cd)) Q E s := wpAny_Name (wpAny_loadName_local hk hl hn hv h) hd
/-- behind it -/
structure Inited (h h' : Heap) (x C dx t1 : Addr) (fs : List Str) (us : List Value) : Prop where
  keep : ∀ b o, b ≠ x → h.get? b = some o → h'.get? b = some o
  obj : h'.get? x = some { cls := .ref C, dict := some dx, data := .fields #[.ref t1, .none, .none, .none, .bool false, .none] }
  dbig : h.objs.size ≤ dx
  dne : dx ≠ x
  ns : h'.Ns1 dx (fun y => (fs.zip us).lookup y)
def Inits (prog : Program) (w : World) (K : Frag) (C fI : Addr) (fs : List Str) : Prop := ∀ {A : Around} {R : Result → Shared → Prop} {s : Shared} {x t0 : Addr} {us : List Value}, K.In s.heap → s.heap.NoLimit → s.heap.get? x = some (excO C t0) → K.lookup x = none → A.depth < recursionLimit → us.length = fs.length →
  (∀ h' tk dx, Inited s.heap h' x C dx t0 fs us → R (.ok (.ret .none)) { s with heap := h', toks := tk }) → codeAny (model prog w) A (.call (.ref fI) ⟨.ref x :: us, []⟩) R s
theorem keeps_but {K : Frag} {h h' : Heap} {x : Addr} (X : K.In h) (hx : K.lookup x = none) (k : ∀ b o, b ≠ x → h.get? b = some o → h'.get? b = some o) : K.In h' := fun a o e =>
  k a o (fun z => by rw [z, hx] at e; cases e) (X a o e)
section
variable {prog : Program} {w : World} {K : Frag} {C fI : Addr} {st : Stmt} {qual : Str} {fd : FuncData}
theorem init2 {f g : Str} {q1 q2 q3 q4 q5 q6 q7 q8 : Pos} (F : Fun K "__init__" qual st fI fd) (Z : IniT st qual [f, g])
    (hb : defBody st = [.Assign [.Attribute (.Name "self" q1) f q2] (.Name f q3) q4, .Assign [.Attribute (.Name "self" q5) g q6] (.Name g q7) q8]) (hfg : f ≠ g)
    (hB : ∀ (s : Shared) (us : List Value), us.length = 3 → BindsTo s fd ⟨us, []⟩ ([("self" : Str), f, g].zip us)) (T : GexC K C) (n1 : findIn K (.ref C) f = some none) (n2 : findIn K (.ref C) g = some none) : Inits prog w K C fI [f, g] := by
  intro A R s x t0 us X hlim hx hnx hroom hl hq
  obtain ⟨v, u, rfl⟩ : ∃ v u, us = [v, u] := match us, hl with | [v, u], _ => ⟨v, u, rfl⟩
  obtain ⟨oc, od, kV, doc, pm, an, cdv, ct, osl, efd, ho, hcd⟩ := F.ex
  subst efd
  refine Att.call_fn (binds := [("self", .ref x), (f, v), (g, u)]) X hlim ho hcd hroom (hB s [.ref x, v, u] rfl) (Z.al [.ref x, v, u] rfl) (fun s1 IC => ?_) Z.kc Z.kg Z.kd
  obtain ⟨h1, tk1, rfl⟩ := IC.toInCall.same
  have k : ∀ b o, s.heap.get? b = some o → h1.get? b = some o := IC.toInCall.keep
  have hn := IC.toInCall.ns
  have a1 := Z.bl s.heap.objs.size fI cdv [.ref x, v, u] rfl
  have hx1 := k _ _ hx
  have X1 := X.keeps k
  have hxL : s.heap.objs.size ≠ x := Nat.ne_of_gt (Heap.lt_size hx)
  show wpAny _ _ (execs (defBody st) _) _ _ _
  rw [hb]
  refine wpAny_execs_cons (plainObj_wpAny_Assign_Attribute ?_)
  refine see hn (a1 1 f v rfl rfl) Z.kd (Z.lk _ _ _ _ (by simp)) (Z.db _ (by simp)) (see hn (a1 0 "self" (.ref x) rfl rfl) Z.kd (Z.lk _ _ _ _ (by simp)) (Z.db _ (by simp)) ?_)
  refine set_plain X1 (ox := excO C t0) (od := none) ⟨hx1, rfl, rfl, trivial⟩ T.sa ?_
  refine put_first T X1 hx1 n1 fun h3 tk3 dx k3 dn dne hx3 hn3 => ?_
  have X3 : K.In h3 := keeps_but X1 hnx k3
  have hL : h3.Ns s.heap.objs.size _ := hn.at fun o e => k3 _ o hxL e
  show wpAny _ _ (execs _ _) _ _ _
  refine wpAny_execs_cons (plainObj_wpAny_Assign_Attribute ?_)
  refine see (s := ⟨h3, s.gens, s.drawn, tk3, s.os⟩) hL (a1 2 g u rfl rfl) Z.kd (Z.lk _ _ _ _ (by simp)) (Z.db _ (by simp)) (see (s := ⟨h3, s.gens, s.drawn, tk3, s.os⟩) hL (a1 0 "self" (.ref x) rfl rfl) Z.kd (Z.lk _ _ _ _ (by simp)) (Z.db _ (by simp)) ?_)
  have hw : Within (fun y => if y = f then some v else none) [f] := fun y hy => by
    by_cases e : y = f
    · rw [e]; exact List.mem_cons_self
    · simp [if_neg e] at hy
  obtain ⟨oD, _, _, hoD, _, _⟩ := hn3.count hw
  refine set_plain X3 (ox := { cls := .ref C, dict := some dx, data := .fields #[.ref t0, .none, .none, .none, .bool false, .none] }) (od := some oD) ⟨hx3, rfl, rfl, hoD⟩ T.sa ?_
  refine put_more T X3 hx3 hn3 hw (Nat.le_of_ble_eq_true rfl) n2 fun h4 tk4 k4 hn4 => ?_
  show wpAny _ _ (execs _ _) _ _ _
  refine wpAny_execs_nil (hq h4 tk4 dx ⟨fun b o hb e => k4 b o (fun z => ?_) (k3 b o hb (k b o e)), k4 _ _ (Ne.symm dne) hx3, Nat.le_of_lt (Nat.lt_of_lt_of_le hn.lt dn), dne, ?_⟩)
  · have z1 := Heap.lt_size (k b o e)
    rw [z] at z1
    exact absurd z1 (Nat.not_lt.mpr dn)
  rw [show (fun y => ([f, g].zip [v, u]).lookup y) = fun y => if y = g then some u else if y = f then some v else none from funext fun y => by
    show List.lookup y [(f, v), (g, u)] = _
    by_cases e : y = f
    · subst e; simp [List.lookup, hfg]
    · rw [if_neg e]
      by_cases e2 : y = g
      · subst e2; simp [List.lookup, show (y == f) = false from by simpa using e]
      · rw [if_neg e2]; simp [List.lookup, show (y == f) = false from by simpa using e, show (y == g) = false from by simpa using e2]]
  exact hn4
/-- a made one -/
structure Made (h h' : Heap) (e C d : Addr) (fs : List Str) (us : List Value) : Prop where
  keep : ∀ b o, h.get? b = some o → h'.get? b = some o
  new : h.objs.size ≤ e
  obj : ∃ oe vs, h'.get? e = some oe ∧ oe.cls = .ref C ∧ oe.dict = some d ∧ oe.data = .fields vs ∧ vs[1]? = some .none
  dbig : h.objs.size ≤ d
  dne : d ≠ e
  ns : h'.Ns1 d (fun y => (fs.zip us).lookup y)
theorem made {fs : List Str} (T : GexC K C) (iC : findIn K (.ref C) "__init__" = some (some (.ref fI))) (tI : typeIn K (.ref fI) = some (.type "function")) (hI : Inits prog w K C fI fs) {A : Around} {R : Result → Shared → Prop} {s : Shared} {us : List Value}
    (X : K.In s.heap) (hlim : s.heap.NoLimit) (hroom : A.depth + 1 < recursionLimit) (hl : us.length = fs.length) (hz : us.length ≤ sizeLine) (hq : ∀ h' tk e d, Made s.heap h' e C d fs us → R (.ok (.ret (.ref e))) { s with heap := h', toks := tk }) :
    codeAny (model prog w) A (.call (.ref C) ⟨us, []⟩) R s := by
  obtain ⟨B, newId, initId, bmB, FB, h1, h2⟩ := T.cls
  obtain ⟨nm, N, qn, bs, bm, hdct, sn, sub, ab, col, dd, k0, k1, k2, k3, k5, hC, hT⟩ := excInit_of X h1
  obtain ⟨hp, g, dr, tk, os⟩ := s
  have k : ∀ b o, hp.get? b = some o → ((hp.push (kdv_tup us)).push (excO C hp.objs.size)).get? b = some o := fun b o e => Heap.get?_push_of_some _ (Heap.get?_push_of_some _ e)
  have hget : ((hp.push (kdv_tup us)).push (excO C hp.objs.size)).get? (hp.objs.size + 1) = some (excO C hp.objs.size) := by heap_get
  have hnx : K.lookup (hp.objs.size + 1) = none := by
    cases e : K.lookup (hp.objs.size + 1) with
    | none => rfl
    | some o =>
      have z : hp.get? (hp.objs.size + 1) = some o := X _ _ e
      exact absurd (Nat.lt_of_succ_lt (Heap.lt_size z)) (Nat.lt_irrefl _)
  refine call_own FB.ex hT hC (looks_findIn X iC) (fun self => bind_fn X self tI) hz ?_
  refine hI (s := ⟨(hp.push (kdv_tup us)).push (excO C hp.objs.size), g, dr, tk, os⟩) (X.keeps k) (hlim.keeps k) hget hnx ?_ hl fun h' tk' dx ⟨k', hx, dn, dne, hns⟩ => ?_
  · show A.depth + 1 < recursionLimit
    exact hroom
  · have old : ∀ b o, hp.get? b = some o → h'.get? b = some o := fun b o e => k' b o (Nat.ne_of_lt (Nat.lt_succ_of_lt (Heap.lt_size e))) (k b o e)
    have z : hp.objs.size + 1 + 1 ≤ dx := by
      first
        | exact dn
        | (have q := dn; rw [Heap.size_push, Heap.size_push] at q; exact q)
        | (simpa only [Heap.size_push] using dn)
    exact ⟨rfl, hq h' tk' (hp.objs.size + 1) dx ⟨old, Nat.le_succ _, ⟨_, _, hx, rfl, rfl, rfl, rfl⟩, Nat.le_trans (Nat.le_trans (Nat.le_succ _) (Nat.le_succ _)) z, dne, hns⟩⟩
end
theorem relO_zip {fs : List Str} : ∀ {vs : List V} {us : List Value}, Vals vs us → ∀ g, RelO ((fs.zip vs).lookup g) ((fs.zip us).lookup g) := by
  induction fs with
  | nil => intro vs us _ g; exact True.intro
  | cons f fs ih =>
    intro vs us r g
    cases r with
    | nil => exact True.intro
    | cons r0 rs =>
      rw [List.zip_cons_cons, List.zip_cons_cons, List.lookup_cons, List.lookup_cons]
      cases (g == f) with
      | true => exact r0
      | false => exact ih rs g
section
variable {X : Cx} {C fI : Addr}
/-- C(e, ..) -/
def tMkG (C : Addr) (fs : List Str) (ta : TA) : L2.St → Hp → XK → Prop := fun σ H Q => ta σ H fun vs H1 => vs.length = fs.length ∧ ∀ d, H1 d = none → Q (.ref C) (some d) (upd H1 d (.xd (fs.zip vs)))
theorem pmk_gex {x : Str} {e : Expr} {es : List Expr} {ta : TA} {p pos : Pos} {k : Nat} {fs : List Str} (T : GexC X.K C) (iC : findIn X.K (.ref C) "__init__" = some (some (.ref fI))) (tI : typeIn X.K (.ref fI) = some (.type "function")) (hI : Inits X.prog X.w X.K C fI fs)
    (hf : fs.length ≤ 1000) (hr : Room k X.A) (hg : Gl X x) (hm : X.mg x = some (.ref C)) (ha : PA X (e :: es) ta) (hdb : (x == ("__debug__" : Str)) = false := by decide)
    (he : starEach (e :: es) X.env = (false, eval e X.env) :: starEach es X.env := by rfl) (hpl : (backTo pos (starEach es X.env)).any (·.1) = false := by rfl) :
    PMk X (.Call (.Name x p) (e :: es) [] pos) (tMkG C fs ta) := by
  intro pins s σ H Q I h
  refine wpAny_Call_Name_kw (ld_glob I hg hm ?_ hdb)
  refine callWith_K (h₀ := X.base) I.ok.mod.kin T.kC (thn (ha.run pos pins s σ H _ I h) fun us s1 ⟨vs, H1, I1, rv, hl, q1⟩ => ⟨I1.kIn, ?_⟩) he hpl
  show wpAny _ _ (call (.ref C) us) _ _ _
  have hlim := I1.nolimit
  obtain ⟨hp, g, dr, tk, os⟩ := s1
  have hu : us.length = fs.length := by rw [← rv.length]; exact hl
  refine wpAny_call (made T iC tI hI I1.kIn hlim (by have := hr.dp; omega) hu (by rw [sizeLine_eq]; omega) fun h' tk' e d M => ?_)
  show MkP X pins σ Q (.ref e) ⟨h', g, dr, tk', os⟩
  obtain ⟨oe, fv, hoe, hc, hd, hdat, h1⟩ := M.obj
  obtain ⟨G, g1, g2⟩ := restrict h' fun b => decide (b ≠ e)
  have gk : ∀ b, b ≠ e → G.get? b = h'.get? b := fun b hb => g1 b (decide_eq_true hb)
  have ge : G.get? e = none := g2 e (by simp)
  have old : ∀ b o, hp.get? b = some o → G.get? b = some o := fun b o q => (gk b (Nat.ne_of_lt (Nat.lt_of_lt_of_le (Heap.lt_size q) M.new))).trans (M.keep b o q)
  have ob : ObjOk X.prog X.w (upd H1 d (.xd (fs.zip vs))) G d (.xd (fs.zip vs)) := ⟨_, M.ns.at (fun o q => (gk d M.dne).trans q), fun f => relO_zip rv f⟩
  have J : Inv X pins σ (upd H1 d (.xd (fs.zip vs))) ⟨G, g, dr, tk', os⟩ := I1.laid (t' := tk') old M.dbig ob
  refine ⟨e, oe, fv, ⟨G, g, dr, tk', os⟩, _, .ref C, some d, rfl, J, fun b o q => ?_, ge, hoe, ⟨hc, hd⟩, hdat, h1, ?_, rfl, I1.bare, raises_own T.exC T.tyC, q1 d (I1.hok.fresh M.dbig)⟩
  · by_cases hb : b = e
    · have q' : G.get? b = some o := q
      rw [hb, ge] at q'; cases q'
    · exact (gk b hb).symm.trans q
  · rw [upd_ne (Ne.symm M.dne)]
    exact I1.hok.fresh M.new
/-- raise C(e, ..) -/
def tRaiseG (C : Addr) (fs : List Str) (W : WX) (ta : TA) : TS := fun _ σ H => tMkG C fs ta σ H fun cls d H' => W cls d σ H'
end
end Gx
namespace Gx
open PySem PyProof.Rows L2
end Gx
namespace Al
open PySem PyProof.Rows L2 Gx
variable [Al.TabList]
section
variable {B : Base} {K : PySem.W.Frag} {σ : AEnv} {M : List MO} {ta te : TE} {t : TA} {asp : ASp} {Φ : AV → List MO → Prop} {Ψ : Exc → List MO → Prop}
theorem Go.up {W W' : Hp} {μ μ' : List Addr} {H H' : Hp} {M' : List MO} (o : Ok B W μ H) (g : Go ⟨W, μ, H⟩ K W μ W' μ' M' H') : Go B K W μ W' μ' M' H' := by
  obtain ⟨e, he⟩ := g.mext
  subst he
  exact ⟨o.trans (fun _ h => h) g.ok rfl, g.sim, g.wext, ⟨e, rfl⟩⟩
theorem Go.of_ok {W W' : Hp} {μ μ' : List Addr} {H H' : Hp} {M' : List MO} (o : Ok ⟨W, μ, H⟩ W' μ' H') (s : Sim K W' μ' M' H') : Go ⟨W, μ, H⟩ K W μ W' μ' M' H' :=
  ⟨o, s, o.wsub, let ⟨e, h, _⟩ := o.pre; ⟨e, h⟩⟩
theorem Ok.up {W W' : Hp} {μ μ' : List Addr} {H H' : Hp} {M' : List MO} (o : Ok B W μ H) (o2 : Ok ⟨W, μ, H⟩ W' μ' H') (s : Sim K W' μ' M' H') : Ok B W' μ' H' := (Go.up (K := K) o (Go.of_ok o2 s)).ok
theorem EFits.of {Ψ' : Exc → List MO → Prop} {E : XK} (h : EFits B K Ψ' E) (f : ∀ x M, Ψ x M → Ψ' x M) : EFits B K Ψ E := fun x M W μ H cls d p => h x M W μ H cls d (f _ _ p)
theorem as_raise {C : Addr} {fs : List Str} {E : XK} {Φ : AEnds} (qe : EFits B K Ψ E) (h : AA B K t σ M fun xs M1 => ∃ ds : List D, xs = ds.map AV.d ∧ ds.length = fs.length ∧ Ψ (C, fs.zip ds) M1) :
    AS B K (tRaiseG C fs (fun cls d _ H' => E cls d H') t) σ M Φ := fun W μ H τ o s e En f =>
  h W μ H τ o s e _ fun xs M1 W1 μ1 H1 vs ⟨ds, e1, hl, p⟩ f1 r1 => by
    subst e1
    have r2 := r1.of_ds
    refine ⟨by rw [← r2.length]; exact hl, fun dx hd => ?_⟩
    have g := go_new (u := .xd (fs.zip vs)) f1.ok f1.sim hd
    refine qe _ _ _ _ _ _ _ p g.ok g.sim ⟨rfl, dx, vs, rfl, ?_, ?_⟩
    · rw [show ((fs.zip ds).map (·.1)) = fs from by rw [List.map_fst_zip (by omega)]]
      exact upd_same
    · show RDs K _ ((fs.zip ds).map (·.2)) vs
      rw [show ((fs.zip ds).map (·.2)) = ds from by rw [List.map_snd_zip (by omega)]]
      exact RDs.mono g.wext r2
end
end Al
namespace Lm
open PySem PySem.Spec PyProof.Rows L2 LamX
/-- its words, the cells that it captured, its code object -/
structure LF where
  qual : Str
  params : Arguments
  body : Expr
  scope : Scope
  cl : List (Str × Addr)
  c : Addr
def LamO (f : Addr) (F : LF) : HO := .ext fun h => ∃ (od : Option Addr) (sl : Array (Option Value)) (pm ctv : Value), h.get? f = some (⟨.type "function", od, .func (PySem.W.kla_fn "<lambda>" F.qual F.params F.body F.scope F.cl pm (.ref F.c) ctv), sl⟩ : Obj)
theorem lamO_at {P : Program} {w : World} {H : Hp} {h : Heap} {f : Addr} {F : LF} (hok : HOk P w H h) (e : H f = some (LamO f F)) :
    ∃ (od : Option Addr) (sl : Array (Option Value)) (pm ctv : Value), h.get? f = some (⟨.type "function", od, .func (PySem.W.kla_fn "<lambda>" F.qual F.params F.body F.scope F.cl pm (.ref F.c) ctv), sl⟩ : Obj) := by
  obtain ⟨z, _, _⟩ := hok f _ e
  exact z
section
variable {X : Cx} {pins : List (Addr × Obj)} {σ : L2.St} {H : Hp} {s : Shared}
theorem inv_lam {F : LF} {o : Obj} {t' : Nat} {pm ctv : Value} (I : Inv X pins σ H s) (ho : o = PySem.W.kla_obj "<lambda>" F.qual F.params F.body F.scope F.cl pm F.c ctv) :
    Inv X pins σ (upd H s.heap.objs.size (LamO s.heap.objs.size F)) { s with heap := s.heap.push o, toks := t' } := by
  subst ho
  refine I.laid (a := s.heap.objs.size) (fun b u e => Heap.get?_push_of_some _ e) (Nat.le_refl _) ?_
  have e : (s.heap.push (PySem.W.kla_obj "<lambda>" F.qual F.params F.body F.scope F.cl pm F.c ctv)).get? s.heap.objs.size = some (PySem.W.kla_obj "<lambda>" F.qual F.params F.body F.scope F.cl pm F.c ctv) := Heap.get?_push_size _ rfl
  exact ⟨⟨_, _, pm, ctv, e⟩, ⟨_, e⟩, fun h1 h2 ⟨od, sl, p, t, z⟩ st => ⟨od, sl, p, t, st _ z⟩⟩
/-- the lambda is made: its code object is new, or found in the table -/
theorem lam_make3 {T : List (Addr × Str)} {c P : Addr} {params : Arguments} {body : Expr} {scope : Scope} {pos : Pos} {E : Value → Shared → Prop} {Q : Value → Shared → Prop} (I : Inv X pins σ H s) (TB : TabB X.base X.mg c P) (hcode : X.env.code = .ref c)
    (hm : (P, X.env.qual ++ "<lambda>") ∈ T) (hu : ∀ p ∈ T, p.1 = P → p.2 = X.env.qual ++ "<lambda>") (hT : LamX.Tabs T H) (hdef : defaultsOf params X.env = ([], [])) (hfree : ∀ y ∈ scope.names, y.2 = .free → ∃ c, X.env.cells.lookup y.1 = some c)
    (h : ∀ (f c' : Addr) (H1 : Hp) (s' : Shared), Inv X pins σ H1 s' → (∀ b o, H b = some o → b ≠ P → H1 b = some o) → (∀ b, H1 b = Option.none → H b = Option.none) → LamX.Tabs T H1 → H f = none → H1 f = some (LamO f ⟨X.env.qual ++ "<lambda>", params, body, scope, cloFrom X.env.cells scope.names [], c'⟩) → H1 c' = some (CodeO c' (X.env.qual ++ "<lambda>")) → Q (.ref f) s') :
    wpAny (model X.prog X.w) X.A (eval (.Lambda params body scope pos) X.env) Q E s := by
  obtain ⟨ps, hP, ht, ha⟩ := hT _ hm
  refine PySem.W.kla_eval hdef ?_
  have bP : s.heap.BuiltinsAt X.mg P := TB.bm.keeps I.bk
  have hP' : s.heap.get? P = some { cls := .none, data := .fields ps } := I.hok P _ hP
  cases hc : codeAmong pos ps.toList with
  | none =>
    refine PySem.W.kla_makeFunction (mg := X.mg) (c := c) (P := P) (ps := ps) (closure_ok hfree) I.ok.glob (I.mod.glob.keeps I.bk) hcode (TB.code.keeps I.bk) hP' ht hc TB.gP bP fun c' ctv h' tk hx hge hlt hrec htb => ?_
    obtain ⟨c2, oc, vs, t, e2, hoc, hd, hv⟩ := hrec
    cases e2
    have nC : H c' = none := I.hok.fresh hge
    have I1 := inv_table (t' := tk) (more := #[rawInt pos.line, rawInt pos.col, .ref c']) (h' := h') I hP (fun b o hb e => hx b o hb e) htb hge ⟨oc, vs, t, hoc, hd, hv⟩
    have hE : ExtN H (upd (upd H P (.tbl (ps ++ #[rawInt pos.line, rawInt pos.col, .ref c']))) c' (CodeO c' (X.env.qual ++ "<lambda>"))) := fun b o e n => by
      rw [upd_ne (ne_of_none e nC), upd_ne (fun z => n ps (Option.some.inj (e.symm.trans (by rw [z]; exact hP))))]
      exact e
    have eL : (ps ++ #[rawInt pos.line, rawInt pos.col, .ref c']).toList = ps.toList ++ [rawInt pos.line, rawInt pos.col, .ref c'] := by simp
    have T1 : LamX.Tabs T (upd (upd H P (.tbl (ps ++ #[rawInt pos.line, rawInt pos.col, .ref c']))) c' (CodeO c' (X.env.qual ++ "<lambda>"))) := fun p hp => by
      by_cases hb : p.1 = P
      · rw [hu p hp hb, hb]
        refine ⟨_, by rw [upd_ne (ne_of_none hP nC), upd_same], by rw [eL]; exact PySem.TriplesOk_snoc _ _ _ _ ht, fun p' cv hcv => ?_⟩
        rw [eL] at hcv
        rcases among_app _ ht hcv with z | z
        · obtain ⟨c0, e1, e2⟩ := ha p' cv z
          exact ⟨c0, e1, hE _ _ e2 codeO_ne⟩
        · exact ⟨c', z, upd_same⟩
      · obtain ⟨ps', a1, a2, a3⟩ := hT p hp
        refine ⟨ps', by rw [upd_ne (ne_of_none a1 nC), upd_ne hb]; exact a1, a2, fun p' cv hcv => ?_⟩
        obtain ⟨c0, e1, e2⟩ := a3 p' cv hcv
        exact ⟨c0, e1, hE _ _ e2 codeO_ne⟩
    have nF := I1.hok.fresh (Nat.le_refl _)
    have I2 := inv_lam (F := ⟨X.env.qual ++ "<lambda>", params, body, scope, cloFrom X.env.cells scope.names [], c'⟩) (t' := tk) (pm := (X.mg "__name__").getD .none) (ctv := ctv) I1 rfl
    have hE2 : ∀ b o, H b = some o → b ≠ P → upd (upd H P (.tbl (ps ++ #[rawInt pos.line, rawInt pos.col, .ref c']))) c' (CodeO c' (X.env.qual ++ "<lambda>")) b = some o := fun b o e n => by
      rw [upd_ne (ne_of_none e nC), upd_ne n]
      exact e
    refine h h'.objs.size c' _ _ I2 (fun b o e n => ?_) (fun b e => NdefX.upd_none (NdefX.upd_none (NdefX.upd_none e))) (T1.ext fun b o e => ?_) (I.hok.fresh (Nat.le_trans hge (Nat.le_of_lt hlt))) upd_same ?_
    · have e1 := hE2 b o e n
      exact (upd_ne (ne_of_none e1 nF)).trans e1
    · exact (upd_ne (ne_of_none e nF)).trans e
    · exact (upd_ne (Nat.ne_of_lt hlt)).trans upd_same
  | some cv =>
    obtain ⟨c', e, hco⟩ := ha pos cv hc
    subst e
    refine PySem.W.kla_makeFunctionHit (mg := X.mg) (c := c) (P := P) (ps := ps) (closure_ok hfree) I.ok.glob (I.mod.glob.keeps I.bk) hcode (TB.code.keeps I.bk) hP' ht hc bP fun ctv h' tk hx hsz => ?_
    have I1 : Inv X pins σ H { s with heap := h', toks := tk } := I.kept hx
    have nF : H h'.objs.size = none := I1.hok.fresh (Nat.le_refl _)
    have I2 := inv_lam (F := ⟨X.env.qual ++ "<lambda>", params, body, scope, cloFrom X.env.cells scope.names [], c'⟩) (t' := tk) (pm := (X.mg "__name__").getD .none) (ctv := ctv) I1 rfl
    refine h h'.objs.size c' _ _ I2 (fun b o e n => ?_) (fun b e => NdefX.upd_none e) (hT.ext fun b o e => ?_) nF upd_same ?_
    · exact (upd_ne (ne_of_none e nF)).trans e
    · exact (upd_ne (ne_of_none e nF)).trans e
    · exact (upd_ne (ne_of_none hco nF)).trans hco
end
end Lm
namespace Isf
open PySem
open Sem (wp)
open PySem.F
namespace F
theorem entry_fn_ga : entryFor table "object.__getattribute__" = some Builtin.«object.__getattribute__» := entryFor_of_tree (by kernel_rfl)
theorem slot_fn_getattribute : Slot "function" "__getattribute__" "object.__getattribute__" :=
  .of (owner := "object") (n := "__getattribute__") (by rw [typeLookup_type, builtinLookup_eq_fast]; kernel_rfl) (by decide +kernel) (by decide +kernel) (by decide +kernel)
    (by first | exact .inl (by decide +kernel) | exact .inr (by decide +kernel)) (by rw [isSubtype_type]; kernel_rfl)
theorem lk_fn_class : typeLookup (.type "function") "__class__" = pure (some (.builtin "object.__class__")) := by rw [typeLookup_type, builtinLookup_eq_fast]; kernel_rfl
theorem sub_fn_class_owner : isSubtype (.type "function") (.type (".".intercalate ("object.__class__".cutAt '.').dropLast)) = pure true := by
  rw [owner_object_class, isSubtype_type]; kernel_rfl
end F
section
variable {prog : Program} {w : World} {A : Around} {E : Value → Shared → Prop} {h : Heap} {g : Array GenState} {d : Drawn} {t : Nat} {os : OsState} {a : Addr} {o : Obj}
theorem class_get_fn {R : Result → Shared → Prop} (hx : h.get? a = some o) (hc : o.cls = .type "function") (hq : R (.ok (.ret (.type "function"))) ⟨h, g, d, t, os⟩) :
    codeAny (model prog w) A (.call (.builtin "getset_descriptor.__get__") ⟨[.builtin "object.__class__", .ref a, .type "function"], []⟩) R ⟨h, g, d, t, os⟩ := by
  have hT : (⟨h, g, d, t, os⟩ : Shared).TypeIs (.ref a) "function" := ⟨_, hx, hc⟩
  have hT5 : (⟨h, g, d, t, os⟩ : Shared).TypeIs (.builtin "object.__class__") "getset_descriptor" := F.typeOf_object_class
  have f8 := F.sub_fn_class_owner
  refine codeAny_call_builtin F.slot_gs_get.plain F.entry_gs_get (F.slot_gs_get.check _ _ _ _ _ _ _ _ hT5 (F.args_gs_get _ _ _) ?_)
  repeat (any_goals (first | assumption | wp_step))
  refine ⟨Code.quiet_builtin _ (by decide +kernel), codeAny_builtin F.entry_object_class ?_⟩
  repeat (any_goals (first | assumption | wp_step))
theorem class_entry_fn {tk : Tok} {Q : Fin → Shared → Prop} (hx : h.get? a = some o) (hc : o.cls = .type "function") (hq : Q (.done (.ret (.type "function"))) ⟨h, g, d, t, os⟩) :
    wpAny (model prog w) A (Builtin.«object.__getattribute__» ⟨[.ref a, .str "__class__" tk], []⟩) Q E ⟨h, g, d, t, os⟩ := by
  have hT : (⟨h, g, d, t, os⟩ : Shared).TypeIs (.ref a) "function" := ⟨_, hx, hc⟩
  have hT5 : (⟨h, g, d, t, os⟩ : Shared).TypeIs (.builtin "object.__class__") "getset_descriptor" := F.typeOf_object_class
  have f4 := F.lk_fn_class
  have f5 := F.typeOf_object_class
  have f6 := F.slot_gs_get.lookup
  have f7 := F.slot_gs_set.lookup
  repeat (any_goals (first | assumption | wp_step))
  refine class_get_fn hx hc ?_
  repeat (any_goals (first | assumption | wp_step))
theorem class_call_fn {tk : Tok} {R : Result → Shared → Prop} (hx : h.get? a = some o) (hc : o.cls = .type "function") (hq : R (.ok (.ret (.type "function"))) ⟨h, g, d, t, os⟩) :
    codeAny (model prog w) A (.call (.builtin "object.__getattribute__") ⟨[.ref a, .str "__class__" tk], []⟩) R ⟨h, g, d, t, os⟩ :=
  codeAny_call_builtin F.slot_fn_getattribute.plain F.entry_fn_ga (F.slot_fn_getattribute.check _ _ _ _ _ _ _ _ (show (⟨h, g, d, t, os⟩ : Shared).TypeIs (.ref a) "function" from ⟨_, hx, hc⟩) (F.args_object_getattribute_2 _ _) (class_entry_fn hx hc hq))
theorem class_by_fn {tk : Tok} {Q : Value → Shared → Prop} (hx : h.get? a = some o) (hc : o.cls = .type "function") (hq : Q (.type "function") ⟨h, g, d, t, os⟩) : wpAny (model prog w) A (getAttrBy (.ref a) (.str "__class__" tk) false) Q E ⟨h, g, d, t, os⟩ := by
  have hT : (⟨h, g, d, t, os⟩ : Shared).TypeIs (.ref a) "function" := ⟨_, hx, hc⟩
  have f2 := F.slot_fn_getattribute.lookup
  have f3 := F.slot_fn_getattribute.bind (.ref a)
  repeat (any_goals (first | assumption | wp_step))
  refine class_call_fn hx hc ?_
  repeat (any_goals (first | assumption | wp_step))
theorem class_attr_fn {Q : Option Value → Shared → Prop} (hx : h.get? a = some o) (hc : o.cls = .type "function") (hq : Q (some (.type "function")) ⟨h, g, d, t + 1, os⟩) : wpAny (model prog w) A (getAttr? (.ref a) "__class__") Q E ⟨h, g, d, t, os⟩ := by
  unfold getAttr? getAttrBy?
  repeat (any_goals (first | assumption | with_reducible apply class_by_fn hx hc | wp_step))
end
open PySem.W
theorem kitx_fn {K : Frag} {a : Addr} : KitX K (.ref a) (.type "function") (KitAt a "function") := kitx_of kitAt_ty (fun {_ _ _ _ _ s} p k => by obtain ⟨h, g, d, t, os⟩ := s; obtain ⟨o, h1, h2⟩ := p; exact class_attr_fn h1 h2 k)
end Isf
namespace Lm
open PySem PySem.Spec PyProof.Rows L2
/-- isinstance of a lambda -/
def rIsiF (K : PySem.W.Frag) : List V → Hp → VK → Prop := fun xs H Q => ∃ (a : Addr) (F : LF) (c : V) (u : Value) (b : Bool), xs = [.ref a, c] ∧ ClsV c u ∧ H a = some (LamO a F) ∧ PySem.W.kitOne K (.type "function") u = some b ∧ Q (.bl b) H
theorem call_isiF {X : Cx} : CallR X (.builtin "isinstance") (rIsiF X.K) := by
  intro pins s σ H xs us Q I r h
  obtain ⟨a, F, c, u, b, rfl, k, hf, e, q⟩ := h
  obtain ⟨u1, u2, rfl, r1, r2⟩ := vals2 r
  have e2 := k.eq r2
  subst e2
  cases (show u1 = Value.ref a from r1)
  obtain ⟨od, sl, pm, ctv, ho⟩ := lamO_at I.hok hf
  exact PySem.W.kia_one Isf.kitx_fn I.kIn ⟨_, ho, rfl⟩ e (fun z => nomatch z) fun tk => ⟨.bl b, H, I.tok tk, rfl, q⟩
end Lm
namespace Al
open PySem PyProof.Rows L2
variable [Al.TabList]
def rStrAdd : R2 := fun x y H Q => ∃ i j, x = .str i ∧ y = .str j ∧ i.length + j.length ≤ sizeLine ∧ Q (.str (i ++ j)) H
def uAdd (K : PySem.W.Frag) : R2 := fun x y H Q => rI0 (fun i j => .int (i + j)) x y H Q ∨ rCat x y H Q ∨ rStrAdd x y H Q ∨ rCatA K x y H Q
def uMul (K : PySem.W.Frag) : R2 := fun x y H Q => rI CMul (fun i j => .int (i * j)) x y H Q ∨ rRep x y H Q ∨ rRepT K x y H Q
def uEq (K : PySem.W.Frag) : R2 := fun x y H Q => rEq x y H Q ∨ rEqD K x y H Q
def uNe (K : PySem.W.Frag) : R2 := fun x y H Q => rNe x y H Q ∨ rNeD K x y H Q
def uLen (K : PySem.W.Frag) : List V → Hp → VK → Prop := fun xs H Q => (∃ p ys, xs = [.ref p] ∧ (SqL K H p ys ∨ SqT K H p ys) ∧ Q (.int ys.length) H) ∨ ∃ z, xs = [.str z] ∧ z.length ≤ sizeLine ∧ Q (.int z.length) H
def uIsi (K : PySem.W.Frag) : List V → Hp → VK → Prop := fun xs H Q => (rIsi K xs H Q ∨ rIsiT K xs H Q) ∨ Lm.rIsiF K xs H Q
def uSl (K : PySem.W.Frag) : V → Option Int → Option Int → Hp → VK → Prop := fun x lo hi H Q => rSlL K x lo hi H Q ∨ rSlT K x lo hi H Q ∨ rSlS x lo hi H Q
section
variable {X : Cx}
theorem u_add : OpR X (binaryOp .Add) (uAdd X.K) := op_add.or (op_cat.or (op_add_str.or op_catA))
theorem u_mul : OpR X (binaryOp .Mult) (uMul X.K) := op_mul.or (op_rep.or op_repT)
theorem u_eq (hu : X.A.units + 64 < cLine) : OpR X (compareOp .Eq) (uEq X.K) := op_eq.or (op_eqD hu)
theorem u_ne (hu : X.A.units + 64 < cLine) : OpR X (compareOp .NotEq) (uNe X.K) := op_ne.or (op_neD hu)
theorem u_len : CallR X (.builtin "len") (uLen X.K) := call_len_seq.or call_len_str
theorem u_isi : CallR X (.builtin "isinstance") (uIsi X.K) := (call_isi.or call_isiT).or Lm.call_isiF
theorem u_sl : SlR X (uSl X.K) := sl_list.or (sl_tup.or sl_str)
/-- len(set(t)), t a tuple of ints -/
def tLenSetT (K : PySem.W.Frag) (ta : TE) : TE := fun σ H Q => ta σ H fun x H1 => ∃ (p : Addr) (ns : List Int), x = .ref p ∧ SqT K H1 p (ns.map V.int) ∧ ns.length ≤ 1000 ∧ ∀ out : List Int, out.Nodup → (∀ k, k ∈ out ↔ k ∈ ns) → Q (.int (out.length : Nat)) H1
theorem pe_lenSetT {a : Expr} {ta : TE} {p p2 q pos : Pos} (hg : Gl X "len") (hm : X.mg "len" = none) (hg2 : Gl X "set") (hm2 : X.mg "set" = none) (ha : PE X a ta) (hc : X.calm = true := by rfl)
    (na : starEach [a] X.env = (false, eval a X.env) :: starEach [] X.env := by rfl) : PE X (.Call (.Name "len" p) [.Call (.Name "set" p2) [a] [] q] [] pos) (tLenSetT X.K ta) := by
  refine ⟨fun pins s σ H Q I h => ?_⟩
  refine Call_ (ld_blt I hg hm boot_len ?_)
  refine PyProof.Rows.callWith_builtin1 (PyProof.Rows.args_cons ?_ rfl) rfl rfl
  refine Call_ (ld_blt I hg2 hm2 PyProof.Rows.boot_set ?_)
  refine PyProof.Rows.callWith_type1 (PyProof.Rows.args_cons (thn (ha.run pins s σ H _ I h) fun v s1 ⟨x, H1, I1, r1, q1⟩ => PyProof.Rows.args_nil ?_) na) na rfl
  obtain ⟨t, ns, rfl, hq, hl, q1⟩ := q1
  cases r1
  obtain ⟨its, rv, pt, hz⟩ := I1.tuple hq
  have hi : IntsAre its.toArray.toList ns := ints_of_vals rv
  refine call_set_tupI ns (I1.ok.hd hc) (show s1.heap.IsTuple t its.toArray from pt) hi (by unfold scanBound; omega) fun h' tk c R1 hcn k => ?_
  refine PyProof.Rows.args_nil ?_
  obtain ⟨o, es, ep, tb, ho, hex, hd, g, nd, hm3, hb, hf, hn, _⟩ := R1
  have I2 : Inv X pins σ H1 { s1 with heap := h', toks := tk } := I1.kept k
  have hlen : (es.toList.map keyOf).length = es.size := by simp
  refine call_len_set ho hex hd hf (by unfold scanBound at hb; omega) ⟨.int es.size, H1, I2.tok _, ⟨_, rfl⟩, ?_⟩
  have z := q1 (es.toList.map keyOf) nd (fun k => by rw [← hm3 k]; simp)
  rwa [hlen] at z
end
section
variable {B : Base} {K : PySem.W.Frag} {σ : AEnv} {M : List MO} {ta tb te to : TE} {t : TA} {x y : AV} {Φ : AV → List MO → Prop}
inductive STV (M : List MO) : AV → List D → Prop
  | lst (l : List D) : STV M (.d (.lst l)) l
  | scr (l : List D) : STV M (.d (.scr l)) l
  | mm {k : Nat} {l : List D} (h : M[k]? = some (.lst l)) : STV M (.m k) l
  | tup (l : List D) : STV M (.d (.tup l)) l
theorem STV.run {W H : Hp} {μ : List Addr} {l : List D} {v : V} (h : STV M x l) (s : Sim K W μ M H) (r : RA K W μ x v) : ∃ a vs, v = .ref a ∧ (SqL K H a vs ∨ SqT K H a vs) ∧ RDs K W l vs := by
  cases h with
  | lst l => obtain ⟨a, vs, rfl, h1, h2⟩ := r; exact ⟨a, vs, rfl, .inl (SqL.of (s.sub _ _ h1)), h2⟩
  | scr l => obtain ⟨a, vs, rfl, h1, h2⟩ := r; exact ⟨a, vs, rfl, .inl (s.sub.seq h1), h2⟩
  | @mm k l hm =>
    obtain ⟨a, ha, rfl⟩ := r
    obtain ⟨vs, h1, h2⟩ := s.ob k a _ ha hm
    exact ⟨a, vs, rfl, .inl (SqL.of h1), h2⟩
  | tup l => obtain ⟨a, vs, rfl, h1, h2⟩ := r; exact ⟨a, vs, rfl, .inr (sqt_mono s.sub h1), h2⟩
theorem ur_addI {i j : Int} (k : Φ (.d (.int (i + j))) M) : AR B K (uAdd K) (.d (.int i)) (.d (.int j)) M Φ := fun W μ H u w o s hu hw Q q => .inl (ar_i0 k W μ H u w o s hu hw Q q)
theorem ur_addL {l m : List D} (h : SL M x l) (h' : SL M y m) (hz : l.length + m.length ≤ sizeLine) (k : Φ (.d (.lst (l ++ m))) M) : AR B K (uAdd K) x y M Φ := fun W μ H u w o s hu hw Q q => .inr (.inl (ar_cat h h' hz k W μ H u w o s hu hw Q q))
theorem ur_mulI {i j : Int} (hc : CMul i j) (k : Φ (.d (.int (i * j))) M) : AR B K (uMul K) (.d (.int i)) (.d (.int j)) M Φ := fun W μ H u w o s hu hw Q q => .inl (ar_i hc k W μ H u w o s hu hw Q q)
theorem RDs.rep {W : Hp} {l : List D} {vs : List V} (h : RDs K W l vs) : ∀ n : Nat, RDs K W (List.replicate n l).flatten (List.replicate n vs).flatten
  | 0 => rfl
  | n + 1 => by
    rw [List.replicate_succ, List.replicate_succ, List.flatten_cons, List.flatten_cons]
    exact h.append (RDs.rep h n)
theorem ur_mulL {l : List D} {j : Int} (h : SL M x l) (h1 : -(2 ^ 63) ≤ j) (h2 : j < 2 ^ 63) (hz : l.length * j.toNat ≤ sizeLine) (k : Φ (.d (.lst (List.replicate j.toNat l).flatten)) M) : AR B K (uMul K) x (.d (.int j)) M Φ := fun W μ H u w o s hu hw Q q => by
  obtain ⟨a, vs, rfl, ha, hv⟩ := h.run s hu
  cases hw
  refine .inr (.inl ⟨a, j, vs, rfl, rfl, ha, h1, h2, by rw [← hv.length]; exact hz, fun p hp => ?_⟩)
  have g := go_new (u := .lst (List.replicate j.toNat vs).flatten) o s hp
  exact q _ _ _ _ _ _ k g ⟨p, _, rfl, upd_same, (hv.rep _).mono g.wext⟩
theorem ur_eqI {i j : Int} (k : Φ (.d (.bl (decide (i = j)))) M) : AR B K (uEq K) (.d (.int i)) (.d (.int j)) M Φ := fun W μ H u w o s hu hw Q q => .inl (ar_eqI k W μ H u w o s hu hw Q q)
theorem ur_neI {i j : Int} (k : Φ (.d (.bl (!decide (i = j)))) M) : AR B K (uNe K) (.d (.int i)) (.d (.int j)) M Φ := fun W μ H u w o s hu hw Q q => .inl (ar_neI k W μ H u w o s hu hw Q q)
theorem ur_eqS {i j : Str} (k : Φ (.d (.bl (decide (i = j)))) M) : AR B K (uEq K) (.d (.str i)) (.d (.str j)) M Φ := fun W μ H u w o s hu hw Q q => .inl (ar_eqS k W μ H u w o s hu hw Q q)
theorem ur_neS {i j : Str} (k : Φ (.d (.bl (!decide (i = j)))) M) : AR B K (uNe K) (.d (.str i)) (.d (.str j)) M Φ := fun W μ H u w o s hu hw Q q => .inl (ar_neS k W μ H u w o s hu hw Q q)
theorem ur_eqB {i j : Bool} (k : Φ (.d (.bl (decide (i = j)))) M) : AR B K (uEq K) (.d (.bl i)) (.d (.bl j)) M Φ := fun W μ H u w o s hu hw Q q => .inl (ar_eqB k W μ H u w o s hu hw Q q)
theorem ur_neB {i j : Bool} (k : Φ (.d (.bl (!decide (i = j)))) M) : AR B K (uNe K) (.d (.bl i)) (.d (.bl j)) M Φ := fun W μ H u w o s hu hw Q q => .inl (ar_neB k W μ H u w o s hu hw Q q)
theorem ur_neP {p q : PyData} (hx : PV M x p) (hy : PV M y q) (h1 : SeqAt.shaped p = true) (h2 : SeqAt.shaped q = true) (k : Φ (.d (.bl (!PyData.eqv p q))) M) : AR B K (uNe K) x y M Φ := fun W μ H u w o s hu hw Q qq => .inr (ar_neD hx hy h1 h2 k W μ H u w o s hu hw Q qq)
theorem inV_ints (i : Int) : ∀ ns : List Int, inV (.int i) (ns.map V.int) = decide (i ∈ ns)
  | [] => rfl
  | n :: ns => by
    have ih := inV_ints i ns
    unfold inV at ih ⊢
    rw [List.map_cons, List.any_cons, ih]
    show (eqV (.int n) (.int i) || _) = _
    have e : eqV (.int n) (.int i) = decide (i = n) := by
      show (n == i) = _
      rw [Bool.eq_iff_iff, beq_iff_eq, decide_eq_true_iff]
      exact ⟨Eq.symm, Eq.symm⟩
    rw [e]
    by_cases h : i = n <;> simp [h, List.mem_cons]
theorem ur_inI {i : Int} {ns : List Int} {neg : Bool} (h : STV M y (ns.map D.int)) (k : Φ (.d (.bl (if neg then !decide (i ∈ ns) else decide (i ∈ ns)))) M) : AR B K (rIn K neg) (.d (.int i)) y M Φ := fun W μ H u w o s hu hw Q q => by
  obtain ⟨a, vs, rfl, h1, h2⟩ := h.run s hw
  cases hu
  have e := RDs.ints h2
  subst e
  refine ⟨a, _, rfl, h1, rfl, by simp [flatV], ?_⟩
  rw [inV_ints]
  exact q _ _ _ _ _ _ k (.refl o s) rfl
theorem uc_len {l : List D} (h : STV M x l) (k : Φ (.d (.int (l.length : Int))) M) : AC B K (uLen K) [x] M Φ := fun W μ H us o s r Q q => by
  obtain ⟨v, rfl, r'⟩ := ra_one r
  obtain ⟨a, vs, rfl, h1, h2⟩ := h.run s r'
  exact .inl ⟨a, vs, rfl, h1, by rw [← h2.length]; exact q _ _ _ _ _ _ k (.refl o s) rfl⟩
/-- a lambda as data: its function object and its code object are known -/
def lamD (f c' : Addr) (F : Lm.LF) : D := .clo f [(f, Lm.LamO f F), (c', LamX.CodeO c' F.qual)]
/-- what isinstance can be asked of -/
def TyL (K : PySem.W.Frag) : D → Prop
  | .clo a aux => ∃ F, (a, Lm.LamO a F) ∈ aux
  | d => TyK K d
theorem tyl_lam {f c' : Addr} {F : Lm.LF} : TyL K (lamD f c' F) := ⟨F, List.mem_cons_self⟩
theorem uc_isiB {d : D} {n : String} {b : Bool} (hk : TyL K d) (hb : PySem.W.kitOne K (tyD d) (.type n) = some b) (k : Φ (.d (.bl b)) M) : AC B K (uIsi K) [.d d, .d (.ty n)] M Φ := fun W μ H us o s r Q q => by
  cases d with
  | clo a aux =>
    obtain ⟨F, hF⟩ := hk
    obtain ⟨v, w, rfl, ⟨rfl, hv⟩, r2⟩ := ra_two r
    cases r2
    exact .inr ⟨a, F, _, .type n, b, rfl, .ty n, s.sub _ _ (hv _ hF), hb, q _ _ _ _ _ _ k (.refl o s) rfl⟩
  | _ => exact .inl (.inl (ac_isiB (K := K) (by exact hk) hb k W μ H us o s r Q q))
theorem uc_isiC {d : D} {C : Addr} {b : Bool} (hk : TyL K d) (hb : PySem.W.kitOne K (tyD d) (.ref C) = some b) (k : Φ (.d (.bl b)) M) : AC B K (uIsi K) [.d d, .d (.adr C)] M Φ := fun W μ H us o s r Q q => by
  cases d with
  | clo a aux =>
    obtain ⟨F, hF⟩ := hk
    obtain ⟨v, w, rfl, ⟨rfl, hv⟩, r2⟩ := ra_two r
    cases r2
    exact .inr ⟨a, F, _, .ref C, b, rfl, .own C, s.sub _ _ (hv _ hF), hb, q _ _ _ _ _ _ k (.refl o s) rfl⟩
  | _ => exact .inl (.inl (ac_isiC (K := K) (by exact hk) hb k W μ H us o s r Q q))
theorem ae_lenSetT (h : AE B K te σ M fun x M1 => ∃ ns : List Int, x = .d (.tup (ns.map D.int)) ∧ ns.length ≤ 1000 ∧ ∀ out : List Int, out.Nodup → (∀ k, k ∈ out ↔ k ∈ ns) → Φ (.d (.int (out.length : Nat))) M1) : AE B K (tLenSetT K te) σ M Φ := fun W μ H τ o s e Q q =>
  h W μ H τ o s e _ fun x M1 W1 μ1 H1 v ⟨ns, e1, hl, p⟩ f1 r1 => by
    subst e1
    obtain ⟨a, vs, rfl, h1, h2⟩ := r1
    have e := RDs.ints h2
    subst e
    exact ⟨a, ns, rfl, sqt_mono f1.sim.sub h1, hl, fun out nd hm => q _ _ _ _ _ _ (p out nd hm) f1 rfl⟩
theorem ae_listRg1 (h : AE B K te σ M fun x M1 => ∃ n : Int, x = .d (.int n) ∧ 0 ≤ n ∧ n ≤ 16777216 ∧ Φ (.m M1.length) (M1 ++ [.lst (rngD 0 n.toNat)])) : AE B K (tLstRg (tRg1 te)) σ M Φ := fun W μ H τ o s e Q q =>
  h W μ H τ o s e _ fun x M1 W1 μ1 H1 v ⟨n, e1, h0, h1, p⟩ f1 r1 => by
    subst e1; cases r1
    refine ⟨n, rfl, RgOk.of_le (Int.le_refl 0) h1 (by omega) h0, fun a ha => ?_⟩
    have rr : RDs K W1 (rngD 0 n.toNat) (rgV 0 n) := by
      unfold rngD rgV
      rw [Int.sub_zero]
      have : ∀ m : List Nat, RDs K W1 (m.map fun (i : Nat) => D.int (0 + (i : Int))) (m.map fun i => V.int (0 + (i : Nat))) := fun m => by
        induction m with
        | nil => rfl
        | cons a m ih => exact ⟨_, _, rfl, rfl, ih⟩
      exact this _
    have g := go_mut (u := .lst (rgV 0 n)) (mo := .lst (rngD 0 n.toNat)) f1.ok f1.sim ha ⟨_, upd_same, rr⟩
    refine q _ _ _ _ _ _ p (f1.trans g) ⟨a, ?_, rfl⟩
    rw [← f1.sim.len, List.getElem?_append_right (Nat.le_refl _), Nat.sub_self]
    rfl
theorem RDs.bools {W : Hp} : ∀ {bs : List Bool} {vs : List V}, RDs K W (bs.map D.bl) vs → vs = bs.map V.bl
  | [], _, h => h
  | n :: ns, _, ⟨v, r, e1, h, t⟩ => by subst e1; cases h; rw [RDs.bools t]; rfl
theorem uc_all {bs : List Bool} (h : SV M x (bs.map D.bl)) (k : Φ (.d (.bl (bs.all id))) M) : AC B K (rAll K) [x] M Φ := fun W μ H us o s r Q q => by
  obtain ⟨v, rfl, r'⟩ := ra_one r
  obtain ⟨a, vs, rfl, h1, h2⟩ := h.run s r'
  have e := RDs.bools h2
  subst e
  exact ⟨a, bs, rfl, h1, q _ _ _ _ _ _ k (.refl o s) rfl⟩
theorem ra_lst {W H : Hp} {μ : List Addr} {k : Nat} {l : List D} {v : V} (s : Sim K W μ M H) (h : M[k]? = some (.lst l)) (r : RA K W μ (.m k) v) : ∃ a vs, v = .ref a ∧ μ[k]? = some a ∧ H a = some (.lst vs) ∧ RDs K W l vs := by
  obtain ⟨a, ha, rfl⟩ := r
  obtain ⟨vs, h1, h2⟩ := s.ob k a _ ha h
  exact ⟨a, vs, rfl, ha, h1, h2⟩
theorem ae_append (h : AE B K to σ M fun x M1 => ∃ k l0, x = .m k ∧ M1[k]? = some (.lst l0) ∧ AA B K t σ M1 fun ys M2 => ∃ y l, ys = [.d y] ∧ M2[k]? = some (.lst l) ∧ l.length < sizeLine ∧ Φ (.d .non) (M2.set k (.lst (l ++ [y])))) : AE B K (tBM K "list" rAppend to t) σ M Φ := fun W μ H τ o s e Q q =>
  h W μ H τ o s e _ fun x M1 W1 μ1 H1 v ⟨k, l0, e1, e2, p⟩ f1 r1 => by
    subst e1
    obtain ⟨a, vs, rfl, ha, h1, h2⟩ := ra_lst f1.sim e2 r1
    refine ⟨.inl ⟨rfl, vs, SqL.of h1⟩, p W1 μ1 H1 τ f1.ok f1.sim (f1.re e) _ fun ys M2 W2 μ2 H2 ws ⟨y, l, e3, e4, hz, p2⟩ f2 r2 => ?_⟩
    subst e3
    obtain ⟨w, rfl, rw_⟩ := ra_one r2
    obtain ⟨a', vs', ea, ha', h3, h4⟩ := ra_lst f2.sim e4 (f2.ra r1)
    cases ea
    refine ⟨a, vs', w, rfl, rfl, h3, by rw [← h4.length]; exact hz, ?_⟩
    have g := go_set (mo := .lst (l ++ [y])) (u := .lst (vs' ++ [w])) f2.ok f2.sim ha' ⟨_, upd_same, h4.append (RDs.one rw_)⟩
    exact q _ _ _ _ _ _ p2 ((f1.trans f2).trans g) rfl
theorem RDs.dropLast {W : Hp} : ∀ {l : List D} {vs : List V}, RDs K W l vs → RDs K W l.dropLast vs.dropLast := fun {l vs} h => by
  rw [List.dropLast_eq_take, List.dropLast_eq_take, ← h.length]
  exact h.take _
theorem RDs.eraseIdx {W : Hp} {l : List D} {vs : List V} (h : RDs K W l vs) (i : Nat) : RDs K W (l.eraseIdx i) (vs.eraseIdx i) := by
  rw [List.eraseIdx_eq_take_drop_succ, List.eraseIdx_eq_take_drop_succ]
  exact (h.take i).append (h.drop (i + 1))
theorem RDs.rev {W : Hp} : ∀ {l : List D} {vs : List V}, RDs K W l vs → RDs K W l.reverse vs.reverse
  | [], _, h => by cases h; rfl
  | d :: l, _, ⟨v, r, e1, h, t⟩ => by
    subst e1
    rw [List.reverse_cons, List.reverse_cons]
    exact (RDs.rev t).append (RDs.one h)
theorem ae_pop (h : AE B K to σ M fun x M1 => ∃ k l y, x = .m k ∧ M1[k]? = some (.lst l) ∧ l[l.length - 1]? = some y ∧ Φ (.d y) (M1.set k (.lst l.dropLast))) : AE B K (tBM0 K "list" rPop to) σ M Φ := fun W μ H τ o s e Q q =>
  h W μ H τ o s e _ fun x M1 W1 μ1 H1 v ⟨k, l, y, e1, e2, e3, p⟩ f1 r1 => by
    subst e1
    obtain ⟨a, vs, rfl, ha, h1, h2⟩ := ra_lst f1.sim e2 r1
    obtain ⟨w, hw, rw_⟩ := h2.get e3
    refine ⟨.inl ⟨rfl, vs, SqL.of h1⟩, a, vs, w, rfl, rfl, h1, by rw [← h2.length]; exact hw, ?_⟩
    have g := go_set (mo := .lst l.dropLast) (u := .lst vs.dropLast) f1.ok f1.sim ha ⟨_, upd_same, h2.dropLast⟩
    exact q _ _ _ _ _ _ p (f1.trans g) (RD.mono g.wext rw_)
theorem ae_popAt (h : AE B K to σ M fun x M1 => ∃ k l0, x = .m k ∧ M1[k]? = some (.lst l0) ∧ AA B K t σ M1 fun ys M2 => ∃ (i : Int) (j : Nat) (l : List D) (y : D), ys = [.d (.int i)] ∧ M2[k]? = some (.lst l) ∧ -(2 ^ 63) ≤ i ∧ i < 2 ^ 63 ∧ seqIndex? i l.length = some j ∧ l[j]? = some y ∧ Φ (.d y) (M2.set k (.lst (l.eraseIdx j)))) : AE B K (tBM K "list" rPopAt to t) σ M Φ := fun W μ H τ o s e Q q =>
  h W μ H τ o s e _ fun x M1 W1 μ1 H1 v ⟨k, l0, e1, e2, p⟩ f1 r1 => by
    subst e1
    obtain ⟨a, vs, rfl, ha, h1, h2⟩ := ra_lst f1.sim e2 r1
    refine ⟨.inl ⟨rfl, vs, SqL.of h1⟩, p W1 μ1 H1 τ f1.ok f1.sim (f1.re e) _ fun ys M2 W2 μ2 H2 ws ⟨i, j, l, y, e3, e4, b1, b2, e5, e6, p2⟩ f2 r2 => ?_⟩
    subst e3
    obtain ⟨w, rfl, rw_⟩ := ra_one r2
    cases rw_
    obtain ⟨a', vs', ea, ha', h3, h4⟩ := ra_lst f2.sim e4 (f2.ra r1)
    cases ea
    obtain ⟨w, hw, rw_⟩ := h4.get e6
    refine ⟨a, vs', i, j, w, rfl, rfl, h3, b1, b2, by rw [← h4.length]; exact e5, hw, ?_⟩
    have g := go_set (mo := .lst (l.eraseIdx j)) (u := .lst (vs'.eraseIdx j)) f2.ok f2.sim ha' ⟨_, upd_same, h4.eraseIdx j⟩
    exact q _ _ _ _ _ _ p2 ((f1.trans f2).trans g) (RD.mono g.wext rw_)
end
end Al
namespace Al
open PySem PyProof.Rows L2
variable [Al.TabList]
/-- of all that is at hand (written by place, all defaults, the keyword defaults that lack, written by name) those at these places -/
def pick (ix : List Nat) {α : Type} (us ds mz ws : List α) : List α := ix.filterMap fun i => (us ++ ds ++ mz ++ ws)[i]?
theorem pick_vals (ix : List Nat) {vs us : List V} : ∀ {L : List V} {L' : List Value}, Vals L L' → Vals (ix.filterMap fun i => L[i]?) (ix.filterMap fun i => L'[i]?) := fun {L L'} h => by
  induction ix with
  | nil => exact .nil
  | cons i ix ih =>
    rw [List.filterMap_cons, List.filterMap_cons]
    cases e : L[i]? with
    | none =>
      rw [h.none_of e]
      exact ih
    | some x =>
      obtain ⟨u, hu, r⟩ := h.get e
      rw [hu]
      exact .cons r ih
theorem pick_rel (ix : List Nat) {vs ds mz zs : List V} {us its mv ws : List Value} (a : Vals vs us) (b : Vals ds its) (c : Vals mz mv) (d : Vals zs ws) : Vals (pick ix vs ds mz zs) (pick ix us its mv ws) :=
  pick_vals (vs := []) (us := []) ix (((a.append b).append c).append d)
theorem pick_ras {K : PySem.W.Frag} {W : Hp} {μ : List Addr} (ix : List Nat) : ∀ {L : List AV} {L' : List V}, RAs K W μ L L' → RAs K W μ (ix.filterMap fun i => L[i]?) (ix.filterMap fun i => L'[i]?) := fun {L L'} h => by
  induction ix with
  | nil => exact ras_nil
  | cons i ix ih =>
    rw [List.filterMap_cons, List.filterMap_cons]
    cases e : L[i]? with
    | none =>
      have : L'[i]? = none := by
        rw [List.getElem?_eq_none_iff, ← h.length]
        exact List.getElem?_eq_none_iff.mp e
      rw [this]
      exact ih
    | some x =>
      obtain ⟨u, hu, r⟩ := h.get e
      rw [hu]
      exact ras_cons r ih
section
variable {B : Base} {K : PySem.W.Frag} {σ : AEnv} {M : List MO} {Φ : AV → List MO → Prop} {C : Addr} {asp : ASp} {E : XK} {Ψ : Exc → List MO → Prop}
theorem ae_makeP {n m : Nat} {ix : List Nat} {dvs mvs : List V} {dA mA : List AV} {t tk : TA} (mono : Mono asp) (qe : EFits B K Ψ E) (hd : ∀ W μ, RAs K W μ dA dvs) (hm : ∀ W μ, RAs K W μ mA mvs)
    (h : AA B K t σ M fun xs M1 => AA B K tk σ M1 fun ys M2 => xs.length = n ∧ ys.length = m ∧ Sent asp (pick ix (.m M2.length :: xs) dA mA ys) (M2 ++ [.ins C [] []]) (MadeOk C M2.length Φ) Ψ) : AE B K (tMakeK C n m (conc K asp) (fun vs zs => pick ix vs dvs mvs zs) E t tk) σ M Φ :=
  ae_makeL mono qe fun W μ H τ o s e Q q => h W μ H τ o s e Q fun xs M' W' μ' H' v p f r => q xs M' W' μ' H' v (fun W2 μ2 H2 τ2 o2 s2 e2 Q2 q2 => p W2 μ2 H2 τ2 o2 s2 e2 Q2 fun ys M3 W3 μ3 H3 v3 ⟨l1, l2, p3⟩ f3 r3 => q2 ys M3 W3 μ3 H3 v3
    ⟨l1, l2, _, fun W μ v vs ws h1 h2 h3 => pick_ras ix (RAs.append (RAs.append (RAs.append (ras_cons h1 h2) (hd W μ)) (hm W μ)) h3), p3⟩ f3 r3) f r
end
end Al
namespace Al
open PySem PyProof.Rows L2 Gx
variable [Al.TabList]
/-- a way to call by names: so many by place, the names, and which of the given values each parameter gets -/
abbrev KwE := Nat × List Str × List Nat
def KwOk (K : PySem.W.Frag) (fd : FuncData) (ps : List Str) (e : KwE) : Prop := KBn K fd ps e.1 e.2.1 (fun us ws => pick e.2.2 us [] [] ws) (fun vs zs => pick e.2.2 vs [] [] zs)
/-- the def st stands by the name x -/
structure DefAt (K : PySem.W.Frag) (mg : Str → Option Value) (x : Str) (st : Stmt) (ps : List Str) (kws : List KwE := []) : Prop where
  ex : ∃ f fd, Fun K x x st f fd ∧ mg x = some (.ref f) ∧ Binds K fd ps [] ∧ ∀ e ∈ kws, KwOk K fd ps e
structure FnAt (P : Program) (w : World) (K : PySem.W.Frag) (mg : Str → Option Value) (base : Heap) (CX : CXT) (k : Nat) (x : Str) (ps : List Str) (asp : ASp) (kws : List KwE := []) : Prop where
  ex : ∃ f fd, FnOk P w K mg base CX k f fd ps (conc K asp) ∧ mg x = some (.ref f) ∧ PySem.W.keepIn K (.ref f) = true ∧ Binds K fd ps [] ∧ ∀ e ∈ kws, KwOk K fd ps e
structure MethDef (K : PySem.W.Frag) (C : Addr) (m qual : Str) (st : Stmt) (ps : List Str) (kws : List KwE := []) : Prop where
  ex : ∃ f fd, Fun K m qual st f fd ∧ Meth K C m f ∧ Binds K fd ps [] ∧ ∀ e ∈ kws, KwOk K fd ps e
structure MethAt (P : Program) (w : World) (K : PySem.W.Frag) (mg : Str → Option Value) (base : Heap) (CX : CXT) (k : Nat) (C : Addr) (m : Str) (ps : List Str) (asp : ASp) (kws : List KwE := []) : Prop where
  ex : ∃ f fd, FnOk P w K mg base CX k f fd ps (conc K asp) ∧ Meth K C m f ∧ Binds K fd ps [] ∧ ∀ e ∈ kws, KwOk K fd ps e
structure MkDef (K : PySem.W.Frag) (mg : Str → Option Value) (C : Addr) (x qual : Str) (st : Stmt) (ps : List Str) (kws : List KwE := []) : Prop where
  ex : ∃ f fd, Fun K "__init__" qual st f fd ∧ Mk K C f ∧ mg x = some (.ref C) ∧ Binds K fd ps [] ∧ ∀ e ∈ kws, KwOk K fd ps e
structure MkAt (P : Program) (w : World) (K : PySem.W.Frag) (mg : Str → Option Value) (base : Heap) (CX : CXT) (k : Nat) (C : Addr) (x : Str) (ps : List Str) (asp : ASp) (kws : List KwE := []) : Prop where
  ex : ∃ f fd, FnOk P w K mg base CX k f fd ps (conc K asp) ∧ Mk K C f ∧ mg x = some (.ref C) ∧ Binds K fd ps [] ∧ ∀ e ∈ kws, KwOk K fd ps e
section
variable {X : Cx} {CX : CXT} {k : Nat} {C : Addr} {x m : Str} {ps : List Str} {asp : ASp} {E : XK} {p pos apos : Pos} {e o : Expr} {es : List Expr} {t : TA} {ta : TE}
theorem pe_fn {K : PySem.W.Frag} {kws : List KwE} (G : FnAt X.prog X.w K X.mg X.base CX k x ps asp kws) (hr : Room k X.A) (hg : Gl X x) (hx : Passes CX X E) (ha : PA X (e :: es) t) (hdb : (x == ("__debug__" : Str)) = false := by decide)
    (he : starEach (e :: es) X.env = (false, eval e X.env) :: starEach es X.env := by rfl) (hpl : (backTo pos (starEach es X.env)).any (·.1) = false := by rfl) (hK : X.K = K := by rfl) : PE X (.Call (.Name x p) (e :: es) [] pos) (tCall (conc K asp) [] E t) := by
  subst hK
  obtain ⟨f, fd, F, hm, hk, hb, _⟩ := G.ex
  exact pe_call F hr hg hm hk hb .nil hx ha hdb he hpl
theorem pe_mt0 {K : PySem.W.Frag} {pl : Sem Bool} (he : PE X o ta) (c : Cls K C) {kws : List KwE} (G : MethAt X.prog X.w K X.mg X.base CX k C m ps asp kws) (hr : Room k X.A) (hx : Passes CX X E)
    (ht : eval (.Call (.Attribute o m apos) [] [] pos) X.env = (do
      let ov ← eval o X.env
      standAt apos.atName
      let (f, first) ← holding [ov] (getMethod ov m pl)
      callWith pos f first (backTo pos (starEach [] X.env)) (backToKw pos (keywordEach [] X.env))) := by rfl) (hK : X.K = K := by rfl) : PE X (.Call (.Attribute o m apos) [] [] pos) (tMeth C m (conc K asp) [] E ta tNil) := by
  subst hK
  obtain ⟨f, fd, F, hm, hb, _⟩ := G.ex
  exact pe_meth0 he c hm F hr hb .nil hx ht
theorem pe_mk {K : PySem.W.Frag} {kws : List KwE} (G : MkAt X.prog X.w K X.mg X.base CX k C x ps asp kws) (hr : Room (k + 1) X.A) (hg : Gl X x) (hx : Passes CX X E) (ha : PA X (e :: es) t) (hdb : (x == ("__debug__" : Str)) = false := by decide)
    (he : starEach (e :: es) X.env = (false, eval e X.env) :: starEach es X.env := by rfl) (hpl : (backTo pos (starEach es X.env)).any (·.1) = false := by rfl) (hK : X.K = K := by rfl) : PE X (.Call (.Name x p) (e :: es) [] pos) (tMake C (conc K asp) [] E t) := by
  subst hK
  obtain ⟨f, fd, F, M, hm, hb, _⟩ := G.ex
  exact pe_make M F hr hg hm hb .nil hx ha hdb he hpl
/-- an own exception with an __init__ of its own, by the name x -/
structure XcAt (P : Program) (w : World) (K : PySem.W.Frag) (mg : Str → Option Value) (C : Addr) (x : Str) (fs : List Str) : Prop where
  gx : GexC K C
  mgC : mg x = some (.ref C)
  few : fs.length ≤ 1000
  ini : ∃ fI, PySem.W.findIn K (.ref C) "__init__" = some (some (.ref fI)) ∧ PySem.W.typeIn K (.ref fI) = some (.type "function") ∧ Inits P w K C fI fs
theorem ps_raiseX {W : WX} {fs : List Str} {pos2 : Pos} (T : XcAt X.prog X.w X.K X.mg C x fs) (hc : X.calm = true) (tk : Takes X W) (hr : Room 0 X.A) (hg : Gl X x) (ha : PA X (e :: es) t) (hdb : (x == ("__debug__" : Str)) = false := by decide)
    (he : starEach (e :: es) X.env = (false, eval e X.env) :: starEach es X.env := by rfl) (hpl : (backTo pos (starEach es X.env)).any (·.1) = false := by rfl) :
    PS X (.Raise (some (.Call (.Name x p) (e :: es) [] pos)) none pos2) (tRaiseG C fs W t) := by
  obtain ⟨fI, h1, h2, h3⟩ := T.ini
  exact ps_raise hc tk (pmk_gex T.gx h1 h2 h3 T.few hr hg T.mgC ha hdb he hpl)
theorem pi_or {tg : Expr} {wi wi' : TI} (h : PI X tg e wi) (h' : PI X tg e wi') : PI X tg e (fun σ H R => wi σ H R ∨ wi' σ H R) := ⟨fun pins s σ H R I q => q.elim (h.run pins s σ H R I) (h'.run pins s σ H R I)⟩
def iSeq (K : PySem.W.Frag) (te : TE) : TI := fun σ H R => iList K te σ H R ∨ iTup K te σ H R
theorem pi_seq {tg : Expr} (he : PE X e ta) : PI X tg e (iSeq X.K ta) := pi_or (pi_list he) (pi_tup he)
end
section
variable {P : Program} {w : World} {K : PySem.W.Frag} {mg : Str → Option Value} {base : Heap} {CX : CXT} {k : Nat} {C : Addr} {x m qual : Str} {st : Stmt} {ps N : List Str} {asp : ASp}
theorem FnAt.mono {j : Nat} (G : FnAt P w K mg base CX j x ps asp) : FnAt P w K mg base CX j x ps asp := G
/-- a def that raises nothing -/
theorem fnat {kws : List KwE} (D : DefAt K mg x st ps kws) (S : FnScope N ps (defScope st)) (len : ∀ xs M Φ Ψ, asp xs M Φ Ψ → xs.length = ps.length)
    (hbody : ∀ (f : Addr) (cdv : Value) (A : Around) (outer : List Env) (s : Shared) (H : Hp) (E : XK), Room k (A.deeper (envOfC x (defScope st) s.heap.objs.size f cdv)) →
      ∃ t, PSs (cxOf CX0 P w K mg base N x (defScope st) f cdv A outer s H E).nox (defBody st) t ∧ ∀ (B : Base) xs M Φ Ψ, B.μ0.length = M.length → asp xs M Φ Ψ → AS B K t (startA N xs) M (defEnds M.length Φ)) : FnAt P w K mg base CX0 (k + 1) x ps asp kws := by
  obtain ⟨f, fd, F, hm, hb⟩ := D.ex
  exact ⟨f, fd, fn_al F S len fun cdv A outer s H E hr => hbody f cdv A outer s H E hr, hm, F.kp, hb⟩
theorem mtat {kws : List KwE} (D : MethDef K C m qual st ps kws) (S : FnScope N ps (defScope st)) (len : ∀ xs M Φ Ψ, asp xs M Φ Ψ → xs.length = ps.length)
    (hbody : ∀ (f : Addr) (cdv : Value) (A : Around) (outer : List Env) (s : Shared) (H : Hp) (E : XK), Room k (A.deeper (envOfC qual (defScope st) s.heap.objs.size f cdv)) →
      ∃ t, PSs (cxOf CX0 P w K mg base N qual (defScope st) f cdv A outer s H E).nox (defBody st) t ∧ ∀ (B : Base) xs M Φ Ψ, B.μ0.length = M.length → asp xs M Φ Ψ → AS B K t (startA N xs) M (defEnds M.length Φ)) : MethAt P w K mg base CX0 (k + 1) C m ps asp kws := by
  obtain ⟨f, fd, F, hm, hb⟩ := D.ex
  exact ⟨f, fd, fn_al F S len fun cdv A outer s H E hr => hbody f cdv A outer s H E hr, hm, hb⟩
/-- a def that may raise -/
theorem fnatX {kws : List KwE} (D : DefAt K mg x st ps kws) (S : FnScope N ps (defScope st)) (len : ∀ xs M Φ Ψ, asp xs M Φ Ψ → xs.length = ps.length)
    (hbody : ∀ (f : Addr) (cdv : Value) (A : Around) (outer : List Env) (s : Shared) (H : Hp) (E : XK), Room k (A.deeper (envOfC x (defScope st) s.heap.objs.size f cdv)) →
      ∃ t, PSs (cxOf (L2.CX P w) P w K mg base N x (defScope st) f cdv A outer s H E) (defBody st) t ∧ ∀ (B : Base) xs M Φ Ψ, B.μ0.length = M.length → asp xs M Φ Ψ → EFits B K (XT M.length Ψ) E → AS B K t (startA N xs) M (defEnds M.length Φ)) : FnAt P w K mg base (L2.CX P w) (k + 1) x ps asp kws := by
  obtain ⟨f, fd, F, hm, hb⟩ := D.ex
  exact ⟨f, fd, fn_alX F S len fun cdv A outer s H E hr => hbody f cdv A outer s H E hr, hm, F.kp, hb⟩
theorem mkatX {kws : List KwE} (D : MkDef K mg C x qual st ps kws) (S : FnScope N ps (defScope st)) (len : ∀ xs M Φ Ψ, asp xs M Φ Ψ → xs.length = ps.length)
    (hbody : ∀ (f : Addr) (cdv : Value) (A : Around) (outer : List Env) (s : Shared) (H : Hp) (E : XK), Room k (A.deeper (envOfC qual (defScope st) s.heap.objs.size f cdv)) →
      ∃ t, PSs (cxOf (L2.CX P w) P w K mg base N qual (defScope st) f cdv A outer s H E) (defBody st) t ∧ ∀ (B : Base) xs M Φ Ψ, B.μ0.length = M.length → asp xs M Φ Ψ → EFits B K (XT M.length Ψ) E → AS B K t (startA N xs) M (defEnds M.length Φ)) : MkAt P w K mg base (L2.CX P w) (k + 1) C x ps asp kws := by
  obtain ⟨f, fd, F, M, hm, hb⟩ := D.ex
  exact ⟨f, fd, fn_alX F S len fun cdv A outer s H E hr => hbody f cdv A outer s H E hr, M, hm, hb⟩
end
section
variable {B : Base} {K : PySem.W.Frag} {σ : AEnv} {M : List MO} {te : TE} {Φ : List D → List MO → Prop}
theorem ai_seqL (h : AE B K te σ M fun x M1 => ∃ l, x = .d (.lst l) ∧ Φ l M1) : AI B K (iSeq K te) σ M Φ := fun W μ H τ o s e R q => .inl (ai_list h W μ H τ o s e R q)
theorem ai_seqT (h : AE B K te σ M fun x M1 => ∃ l, x = .d (.tup l) ∧ Φ l M1) : AI B K (iSeq K te) σ M Φ := fun W μ H τ o s e R q => .inr (ai_tup h W μ H τ o s e R q)
end
section
variable {B : Base} {K : PySem.W.Frag} {σ : AEnv} {M : List MO} {te : TE} {Φ : AV → List MO → Prop}
theorem ur_ixM {k : Nat} {i : Int} {l : List D} {d : D} (hm : M[k]? = some (.lst l)) (ha : atI l i = some d) (q : Φ (.d d) M) : AR B K (rIx K) (.m k) (.d (.int i)) M Φ := fun W μ H u w o s hu hw Q qq => .inl (ar_ixM hm ha q W μ H u w o s hu hw Q qq)
theorem ur_ixL {i : Int} {l : List D} {d : D} (ha : atI l i = some d) (q : Φ (.d d) M) : AR B K (rIx K) (.d (.lst l)) (.d (.int i)) M Φ := fun W μ H u w o s hu hw Q qq => .inl (ar_ixL ha q W μ H u w o s hu hw Q qq)
theorem ur_ixS {i : Int} {l : List D} {d : D} (ha : atI l i = some d) (q : Φ (.d d) M) : AR B K (rIx K) (.d (.scr l)) (.d (.int i)) M Φ := fun W μ H u w o s hu hw Q qq => .inl (ar_ixS ha q W μ H u w o s hu hw Q qq)
theorem ur_ixT {i : Int} {l : List D} {d : D} (ha : atI l i = some d) (q : Φ (.d d) M) : AR B K (rIx K) (.d (.tup l)) (.d (.int i)) M Φ := fun W μ H u w o s hu hw Q qq => .inr (.inl (ar_ixT ha q W μ H u w o s hu hw Q qq))
theorem as_augM {i : Nat} {C : Int → Int → Prop} {f : Int → Int → Int} {a : Int} {Φ : AEnds} (hx : σ[i]? = some (some (.d (.int a)))) (h : AE B K te σ M fun y M1 => ∃ b, y = .d (.int b) ∧ C a b ∧ Φ.nx (σ.set i (some (.d (.int (f a b))))) M1) : AS B K (tAug i te (rI C fun i j => .int (f i j))) σ M Φ := fun W μ H τ o s e E ff => by
  obtain ⟨v, h1, h2⟩ := e.2 i _ hx
  cases h2
  exact ⟨_, h1, h W μ H τ o s e _ fun y M1 W1 μ1 H1 w ⟨b, e1, hc, p⟩ f1 r1 => by
    subst e1; cases r1
    exact ⟨a, b, rfl, rfl, hc, ff.nx _ _ _ _ _ _ p f1 (RE.set (x := .d (.int (f a b))) (f1.re e) rfl i)⟩⟩
theorem as_asgN {i : Nat} {Φ : AEnds} (h : AE B K te σ M fun x M1 => Φ.nx (σ.set i (some x)) M1) : AS B K (tAsg te (gName i)) σ M Φ := as_asg (h.imp fun x M1 p => ag_name p)
end
section
variable (K : PySem.W.Frag) {X : Cx}
theorem k_add (hK : X.K = K := by rfl) : OpR X (binaryOp .Add) (uAdd K) := hK ▸ u_add
theorem k_mul (hK : X.K = K := by rfl) : OpR X (binaryOp .Mult) (uMul K) := hK ▸ u_mul
theorem k_eq (hu : X.A.units + 64 < cLine) (hK : X.K = K := by rfl) : OpR X (compareOp .Eq) (uEq K) := hK ▸ u_eq hu
theorem k_ne (hu : X.A.units + 64 < cLine) (hK : X.K = K := by rfl) : OpR X (compareOp .NotEq) (uNe K) := hK ▸ u_ne hu
theorem k_notIn (hK : X.K = K := by rfl) : OpR X (compareOp .NotIn) (rIn K true) := hK ▸ op_notIn_seq
theorem k_len (hK : X.K = K := by rfl) : CallR X (.builtin "len") (uLen K) := hK ▸ u_len
theorem k_isi (hK : X.K = K := by rfl) : CallR X (.builtin "isinstance") (uIsi K) := hK ▸ u_isi
theorem k_all (hc : X.calm = true) (hK : X.K = K := by rfl) : CallR X (.builtin "all") (rAll K) := hK ▸ cr_all hc
theorem k_ix (hK : X.K = K := by rfl) : IxR X (rIx K) := hK ▸ ix_seq
theorem k_sl (hK : X.K = K := by rfl) : SlR X (uSl K) := hK ▸ u_sl
def kListOf : List V → Hp → VK → Prop := fun xs H Q => ∃ p ys, xs = [.ref p] ∧ (SqL K H p ys ∨ SqT K H p ys) ∧ ∀ l, H l = none → Q (.ref l) (upd H l (.lst ys))
def kTupOf : List V → Hp → VK → Prop := fun xs H Q => ∃ p ys, xs = [.ref p] ∧ ((SqL K H p ys ∧ ∀ l, H l = none → Q (.ref l) (upd H l (.tup ys))) ∨ (SqT K H p ys ∧ Q (.ref p) H))
theorem k_listOf (hK : X.K = K := by rfl) : CallR X (.type "list") (kListOf K) := hK ▸ call_list_of
theorem k_tupOf (hK : X.K = K := by rfl) : CallR X (.type "tuple") (kTupOf K) := hK ▸ call_tuple_of
theorem pi_seqK {tg e : Expr} {ta : TE} (he : PE X e ta) (hK : X.K = K := by rfl) : PI X tg e (iSeq K ta) := hK ▸ pi_seq he
theorem pe_fldK {e : Expr} {f : Str} {pos : Pos} {ta : TE} (he : PE X e ta) (hb : attributeBase e f X.env (eval e X.env) = eval e X.env) (hK : X.K = K := by rfl) : PE X (.Attribute e f pos) (tFld K ta f) := hK ▸ pe_fld he hb
end
section
variable {B : Base} {K : PySem.W.Frag} {M : List MO} {x : AV} {Φ : AV → List MO → Prop}
theorem uc_tuple {l : List D} (h : STV M x l) (k : Φ (.d (.tup l)) M) : AC B K (kTupOf K) [x] M Φ := by
  cases h with
  | lst l => exact ac_tuple (.lst l) k
  | scr l => exact ac_tuple (.scr l) k
  | mm h => exact ac_tuple (.mm h) k
  | tup l =>
    refine fun W μ H us o s r Q q => ?_
    obtain ⟨v, rfl, r'⟩ := ra_one r
    obtain ⟨a, vs, rfl, h1, h2⟩ := r'
    exact ⟨a, vs, rfl, .inr ⟨sqt_mono s.sub h1, q _ _ _ _ _ _ k (.refl o s) ⟨a, vs, rfl, h1, h2⟩⟩⟩
theorem uc_listM {l : List D} (h : SV M x l) (k : Φ (.m M.length) (M ++ [.lst l])) : AC B K (kListOf K) [x] M Φ := ac_listM h k
end
/-- the names of the built-ins, none of which the module hides -/
structure Bt (mg : Str → Option Value) : Prop where
  len : mg "len" = none
  abs : mg "abs" = none
  isinstance : mg "isinstance" = none
  range : mg "range" = none
  min : mg "min" = none
  max : mg "max" = none
  list : mg "list" = none
  tuple : mg "tuple" = none
  str : mg "str" = none
  int : mg "int" = none
  bool : mg "bool" = none
  repr : mg "repr" = none
  set : mg "set" = none
  all : mg "all" = none
  sorted : mg "sorted" = none
  enumerate : mg "enumerate" = none
  zip : mg "zip" = none
  dict : mg "dict" = none
  ValueError : mg "ValueError" = none
  TypeError : mg "TypeError" = none
  IndexError : mg "IndexError" = none
  any : mg "any" = none
  sum : mg "sum" = none
  reversed : mg "reversed" = none
  KeyError : mg "KeyError" = none
  LookupError : mg "LookupError" = none
  ArithmeticError : mg "ArithmeticError" = none
  OverflowError : mg "OverflowError" = none
  RuntimeError : mg "RuntimeError" = none
  ZeroDivisionError : mg "ZeroDivisionError" = none
  StopIteration : mg "StopIteration" = none
end Al
namespace Al
open PySem PyProof.Rows L2 Gx
variable [Al.TabList]
section
variable {B : Base} {K : PySem.W.Frag} {σ : AEnv} {M : List MO} {te : TE} {Φ : AV → List MO → Prop}
theorem AIP.imp {P : List MO → Prop} {wi : TI} {Φ Φ' : List D → List MO → Prop} (h : AIP P B K wi σ M Φ) (f : ∀ l M', Φ l M' → Φ' l M') : AIP P B K wi σ M Φ' := fun W μ H τ o s e R q =>
  h W μ H τ o s e R fun items M' W' μ' H' J p g ok => q items M' W' μ' H' J (f _ _ p) g ok
theorem take_succ_map {α β : Type} {l : List α} {i : Nat} {d : α} (F : α → β) (h : l[i]? = some d) : (l.take (i + 1)).map F = (l.take i).map F ++ [F d] := by
  rw [List.take_add_one, h]
  simp
/-- [te for g in wi]: each item by F -/
theorem ae_mapP {P : List MO → Prop} {wi : TI} {g : TG} {vs : List Nat} {l : List D} (F : D → D) (hM : M.all (MO.below M.length) = true) (gk : GK g vs) (hz : l.length ≤ sizeLine) (hP : ∀ acc, P (M ++ [.lst acc]))
    (h : AIP P B K wi σ M fun items M1 => M1 = M ∧ items = l ∧ Φ (.d (.lst (l.map F))) M)
    (ht : ∀ d ∈ l, ∀ acc, AG B K g (.d d) (wipeA σ vs) (M ++ [.lst acc]) fun σ2 M2 => AE B K te σ2 M2 fun y M4 => y = .d (F d) ∧ M4 = M ++ [.lst acc]) : AE B K (tLc wi g tYes te vs) σ M Φ := by
  refine ae_lcP (n := M.length) (fun i acc M' => M' = M ∧ acc = (l.take i).map F) (fun i acc M' ⟨e, _⟩ => by subst e; exact ⟨rfl, hM⟩) gk (fun i acc M' ⟨e, _⟩ => by subst e; exact hP acc) (h.imp fun items M1 ⟨e1, e2, p⟩ => ?_)
  subst e1; subst e2
  refine ⟨⟨rfl, rfl⟩, fun i d acc M' hd ⟨e1, e2⟩ => ?_, fun acc M' ⟨e1, e2⟩ => ?_⟩
  · subst e1
    refine fun W μ H τ v o s e r Q q => ht d (List.mem_of_getElem? hd) acc W μ H τ v o s e r Q fun σ2 M2 W2 μ2 H2 τ2 p2 f2 e3 => q σ2 M2 W2 μ2 H2 τ2 ?_ f2 e3
    refine at_yes ⟨fun _ => p2.imp fun y M4 ⟨ey, eM⟩ => ⟨F d, M', ey, eM, ?_, rfl, ?_⟩, (fun z => nomatch z)⟩
    · rw [e2, List.length_map, List.length_take]
      have := (List.getElem?_eq_some_iff.mp hd).1
      omega
    · rw [e2, take_succ_map F hd]
  · subst e1
    rw [List.take_length] at e2
    rw [e2]
    exact p
theorem ae_map {wi : TI} {g : TG} {vs : List Nat} {l : List D} (F : D → D) (hM : M.all (MO.below M.length) = true) (gk : GK g vs) (hz : l.length ≤ sizeLine)
    (h : AI B K wi σ M fun items M1 => M1 = M ∧ items = l ∧ Φ (.d (.lst (l.map F))) M)
    (ht : ∀ d ∈ l, ∀ acc, AG B K g (.d d) (wipeA σ vs) (M ++ [.lst acc]) fun σ2 M2 => AE B K te σ2 M2 fun y M4 => y = .d (F d) ∧ M4 = M ++ [.lst acc]) : AE B K (tLc wi g tYes te vs) σ M Φ := ae_mapP F hM gk hz (fun _ => True.intro) h ht
theorem uc_allP {x : AV} {l : List D} (p : D → Bool) (h : SV M x (l.map fun d => .bl (p d))) (k : Φ (.d (.bl (l.all p))) M) : AC B K (rAll K) [x] M Φ := by
  refine uc_all (bs := l.map p) (by rw [List.map_map]; exact h) ?_
  rw [show (l.map p).all id = l.all p from by rw [List.all_map]; rfl]
  exact k
theorem atI_natD {l : List D} {i : Nat} {d : D} (h : l[i]? = some d) : atI l (i : Int) = some d := by
  have hl := (List.getElem?_eq_some_iff.mp h).1
  unfold atI ixN
  rw [if_pos (by omega), if_pos (by omega), Option.bind_some, Int.toNat_natCast]
  exact h
theorem iteB {b : Bool} {α : Prop} {β : Prop} (h1 : b = true → α) (h2 : b = false → β) : (b = true → α) ∧ (b = false → β) := ⟨h1, h2⟩
end
end Al
namespace Ow
open PySem PySem.Spec PySem.SeqAt
open AutoSeq1 (wpAny_loadPart' idx_int sub_tuple_tuple sub_list_list sub_tuple_list sub_list_tuple)
end Ow
namespace Al
open PySem PyProof.Rows L2 Gx
variable [Al.TabList]
section
variable {X : Cx} (K : PySem.W.Frag)
theorem pe_bmK {o e : Expr} {es : List Expr} {to : TE} {t : TA} {name : Str} {apos cpos : Pos} {T id : String} {r : V → List V → Hp → VK → Prop} (pa : PlainAttrs T) (slot : Slot T name id) (hty : typeOf (.builtin id) = pure (.type "method_descriptor")) (hm : MtR X id r) (ho : PE X o to) (ha : PA X (e :: es) t)
    (hbase : attributeBase o name X.env (eval o X.env) = eval o X.env := by rfl)
    (hfew : ((backTo cpos (starEach (e :: es) X.env)).all (fun x => !x.1) && (backToKw cpos (keywordEach [] X.env)).all (fun x => x.1.isSome)
      && decide ((e :: es).length + ([] : List Keyword).length + (if ([] : List Keyword).isEmpty then 0 else 1) < 30)) = true := by rfl)
    (hline : (apos.endLine == cpos.line) = true := by rfl) (hs : starEach (e :: es) X.env = (false, eval e X.env) :: starEach es X.env := by rfl) (hplain : (backTo cpos (starEach es X.env)).any (·.1) = false := by rfl) (hK : X.K = K := by rfl) :
    PE X (.Call (.Attribute o name apos) (e :: es) [] cpos) (tBM K T r to t) := hK ▸ pe_bm pa slot hty hm ho ha hbase hfew hline hs hplain
theorem pe_bm0K {o : Expr} {to : TE} {name : Str} {apos cpos : Pos} {T id : String} {r : V → List V → Hp → VK → Prop} (pa : PlainAttrs T) (slot : Slot T name id) (hty : typeOf (.builtin id) = pure (.type "method_descriptor")) (hm : MtR X id r) (ho : PE X o to)
    (hbase : attributeBase o name X.env (eval o X.env) = eval o X.env := by rfl) (hline : (apos.endLine == cpos.line) = true := by rfl) (hK : X.K = K := by rfl) : PE X (.Call (.Attribute o name apos) [] [] cpos) (tBM0 K T r to) := hK ▸ pe_bm0 pa slot hty hm ho hbase hline
end
end Al
namespace Al
open PySem PyProof.Rows L2 Gx
variable [Al.TabList]
theorem pures_ints : ∀ ns : List Int, D.pures (ns.map D.int) = true
  | [] => rfl
  | n :: ns => by show (D.pure (.int n) && D.pures (ns.map D.int)) = true; rw [pures_ints ns]; rfl
section
variable {B : Base} {K : PySem.W.Frag} {M : List MO} {x y : AV} {Φ : AV → List MO → Prop}
/-- a list of ints, frozen or not -/
inductive LI (M : List MO) : AV → List Int → Prop
  | d (ns : List Int) : LI M (.d (.lst (ns.map D.int))) ns
  | m {k : Nat} {ns : List Int} (h : M[k]? = some (.lst (ns.map D.int))) : LI M (.m k) ns
theorem LI.pv {ns : List Int} (h : LI M x ns) : PV M x (.list (toPs (ns.map D.int))) := by
  cases h with
  | d ns => exact .d (x := .lst (ns.map D.int)) (pures_ints ns)
  | m h => exact .mm h (pures_ints ns)
end
end Al
namespace Al
open PySem PyProof.Rows L2 Gx
variable [Al.TabList]
theorem pg_tupK (K : PySem.W.Frag) {X : Cx} {pos : Pos} {es : List Expr} {k : Nat} {t : TGs} {n : Nat} (hc : X.calm = true) (h : PGs X es t)
    (hn : (assignEach es X.env).length = n := by rfl) (hst : (assignEach es X.env).findIdx? (·.1) = none := by rfl) (hK : X.K = K := by rfl) : PG X (.Tuple es k pos) (gTup K n t) := hK ▸ pg_tup hc h hn hst
/-- a call that raises nothing of what it may -/
theorem passF {X : Cx} : Passes (L2.CX X.prog X.w) X (fun _ _ _ => False) := fun _ _ _ _ _ _ _ ⟨_, _, _, _, _, _, _, _, _, _, _, _, w⟩ => w.elim
end Al
namespace Al
open PySem PyProof.Rows L2 Gx
end Al
namespace Al
open PySem PySem.Spec PyProof.Rows L2 Gx
variable [Al.TabList]
structure FnOkG (P : Program) (w : World) (K : PySem.W.Frag) (mg : Str → Option Value) (base : Heap) (CX : CXT) (k : Nat) (f : Addr) (fd : FuncData) (ps : List Str) (sp : Sp) : Prop where
  len : ∀ vs H Q E, sp vs H Q E → vs.length = ps.length
  run : ∀ (A : Around) (outer : List Env) (s : Shared) (H : Hp) (args : Args) (us : List Value) (vs : List V) (Q : VK) (E : XK), A.guards = some [] → Room k A → Env0 P w K mg base A outer s H → BindsTo s fd args (ps.zip us) → Vals vs us → sp vs H Q E →
    codeAny (model P w) A (.call (.ref f) args) (CR CX outer P w H s Q E) s
theorem FnOkG.imp {P : Program} {w : World} {K : PySem.W.Frag} {mg : Str → Option Value} {base : Heap} {CX : CXT} {k : Nat} {f : Addr} {fd : FuncData} {ps : List Str} {sp sp' : Sp} (F : FnOkG P w K mg base CX k f fd ps sp)
    (h : ∀ vs H Q E, sp' vs H Q E → sp vs H Q E) : FnOkG P w K mg base CX k f fd ps sp' :=
  ⟨fun vs H Q E q => F.len vs H Q E (h _ _ _ _ q), fun A outer s H args us vs Q E gg hr he hb hv hs => F.run A outer s H args us vs Q E gg hr he hb hv (h _ _ _ _ hs)⟩
structure FnAtG (P : Program) (w : World) (K : PySem.W.Frag) (mg : Str → Option Value) (base : Heap) (CX : CXT) (k : Nat) (x : Str) (ps : List Str) (asp : ASp) : Prop where
  ex : ∃ f fd, FnOkG P w K mg base CX k f fd ps (conc K asp) ∧ mg x = some (.ref f) ∧ PySem.W.keepIn K (.ref f) = true ∧ Binds K fd ps []
theorem FnAtG.of {P : Program} {w : World} {K : PySem.W.Frag} {mg : Str → Option Value} {base : Heap} {CX : CXT} {k : Nat} {x : Str} {ps : List Str} {asp : ASp} {kws : List KwE} (G : FnAt P w K mg base CX k x ps asp kws) : FnAtG P w K mg base CX k x ps asp := by
  obtain ⟨f, fd, F, h1, h2, h3, _⟩ := G.ex
  exact ⟨f, fd, ⟨F.len, fun A outer s H args us vs Q E _ => F.run A outer s H args us vs Q E⟩, h1, h2, h3⟩
end Al
namespace Al
open PySem PySem.Spec PyProof.Rows L2 Gx
variable [Al.TabList]
mutual
def isP : D → Bool
  | .non => true
  | .bl _ => true
  | .int _ => true
  | .str _ => true
  | .tup l => isPs l
  | .lst l => isPs l
  | .scr l => isPs l
  | _ => false
def isPs : List D → Bool
  | [] => true
  | d :: l => isP d && isPs l
end
end Al
namespace Al
open PySem PyProof.Rows L2 Lm
variable [Al.TabList]
/-- the tables, as HandS has them -/
def tabT : List (Addr × Str) := TabList.l.map fun p => (p.2.1, p.2.2)
theorem tabT_of {H : Hp} : LamX.Tabs tabT H ↔ Tabs H := by
  constructor
  · intro h p hp
    exact h (p.2.1, p.2.2) (List.mem_map.mpr ⟨p, hp, rfl⟩)
  · intro h p hp
    obtain ⟨q, hq, rfl⟩ := List.mem_map.mp hp
    exact h q hq
/-- what is asked of a def that makes lambdas: its code object and table are listed, one name a table -/
structure LamAt (base : Heap) (mg : Str → Option Value) (c P : Addr) (q : Str) : Prop where
  mem : (c, P, q) ∈ TabList.l
  one : ∀ p ∈ TabList.l, p.2.1 = P → p.2.2 = q
  tb : LamX.TabB base mg c P
def tLamV [Al.TabList] (P : Addr) (mk : Addr → LF) : TE := fun σ H Q => Tabs H ∧ ∀ f c' H1, (∀ b o, H b = some o → b ≠ P → H1 b = some o) → (∀ b, H1 b = Option.none → H b = Option.none) → Tabs H1 → H f = none → H1 f = some (LamO f (mk c')) → H1 c' = some (LamX.CodeO c' (mk c').qual) → Q (.ref f) H1
theorem pe_lamV {X : Cx} {c P : Addr} {q : Str} {params : Arguments} {body : Expr} {scope : Scope} {pos : Pos} (L : LamAt X.base X.mg c P q) (hcode : X.env.code = .ref c) (hq : q = X.env.qual ++ "<lambda>") (hdef : defaultsOf params X.env = ([], []))
    (hfree : ∀ y ∈ scope.names, y.2 = .free → X.env.scope.names.lookup y.1 = some .cell ∨ X.env.scope.names.lookup y.1 = some .free) :
    PE X (.Lambda params body scope pos) (tLamV P fun c' => ⟨q, params, body, scope, cloFrom X.env.cells scope.names [], c'⟩) := by
  subst hq
  refine ⟨fun pins s σ H Q I h => ?_⟩
  obtain ⟨hT, h⟩ := h
  refine lam_make3 (T := tabT) I L.tb hcode (List.mem_map.mpr ⟨_, L.mem, rfl⟩) (fun p hp e => ?_) (tabT_of.mpr hT) hdef (fun y hy e => (hfree y hy e).elim (fun z => I.ok.has _ (.inl z)) fun z => I.ok.has _ (.inr z)) fun f c' H1 s' I1 eN nn T1 f0 f1 c1 => ?_
  · obtain ⟨r, hr, rfl⟩ := List.mem_map.mp hp
    exact L.one r hr e
  · exact ⟨.ref f, H1, I1, rfl, h f c' H1 eN nn (tabT_of.mp T1) f0 f1 c1⟩
section
variable {B : Base} {K : PySem.W.Frag} {σ : AEnv} {M : List MO} {Φ : AV → List MO → Prop}
theorem ae_lamV {c P : Addr} {q : Str} {mk : Addr → LF} (mem : (c, P, q) ∈ TabList.l) (k : ∀ f c', Φ (.d (lamD f c' (mk c'))) M) : AE B K (tLamV P mk) σ M Φ := fun W μ H τ o s e Q qq => by
  refine ⟨s.tab, fun f c' H1 hE nn T1 f0 f1 c1 => ?_⟩
  have hP : ∀ a u, H a = some u → (∀ ps, u ≠ .tbl ps) → a ≠ P := fun a u h1 h2 z => by
    subst z
    obtain ⟨ps, h3, _⟩ := s.tab _ mem
    rw [h3] at h1
    exact h2 ps (Option.some.inj h1).symm
  have wf : W f = none := by
    cases z : W f with
    | none => rfl
    | some u => rw [s.sub f u z] at f0; cases f0
  have wP : W P = none := s.tw _ mem
  have wk : ∀ a u, W a = some u → H1 a = some u := fun a u h => hE a u (s.sub a u h) fun z => by rw [z, wP] at h; cases h
  have wc : ∀ u, W c' = some u → u = LamX.CodeO c' (mk c').qual := fun u h => by
    have := wk _ _ h
    rw [c1] at this
    exact (Option.some.inj this).symm
  have live : ∀ a ∈ μ, ∃ u, H a = some u ∧ Plain u ∧ H1 a = some u := fun a ha => by
    obtain ⟨u, hu⟩ := s.live ha
    have hp := s.plain ha hu
    exact ⟨u, hu, hp, hE a u hu (hP a u hu hp.1)⟩
  have mf : ∀ a ∈ μ, a ≠ f := fun a ha z => by
    obtain ⟨u, hu, _⟩ := live a ha
    rw [z, f0] at hu; cases hu
  have mc : ∀ a ∈ μ, a ≠ c' := fun a ha z => by
    obtain ⟨u, _, hp, hu⟩ := live a ha
    rw [z, c1] at hu
    cases hu
    exact hp.2.1 _ rfl
  have sW : Same W (upd (upd W c' (LamX.CodeO c' (mk c').qual)) f (LamO f (mk c'))) := fun a u h => by
    rw [upd_ne (fun z => by rw [z, wf] at h; cases h)]
    by_cases z : a = c'
    · rw [z] at h ⊢; rw [upd_same, wc u h]
    · rw [upd_ne z]; exact h
  have W'a : ∀ a u, upd (upd W c' (LamX.CodeO c' (mk c').qual)) f (LamO f (mk c')) a = some u → H1 a = some u := fun a u h => by
    by_cases z : a = f
    · subst z; rw [upd_same] at h; rw [← h]; exact f1
    · rw [upd_ne z] at h
      by_cases z2 : a = c'
      · rw [z2] at h ⊢; rw [upd_same] at h; rw [← h]; exact c1
      · rw [upd_ne z2] at h; exact wk a u h
  have wcc : upd (upd W c' (LamX.CodeO c' (mk c').qual)) f (LamO f (mk c')) c' = some (LamX.CodeO c' (mk c').qual) := by
    by_cases z : c' = f
    · have : LamO f (mk c') = LamX.CodeO c' (mk c').qual := by
        have h1 := c1
        rw [show H1 c' = H1 f from by rw [z], f1] at h1
        exact Option.some.inj h1
      rw [show upd (upd W c' (LamX.CodeO c' (mk c').qual)) f (LamO f (mk c')) c' = some (LamO f (mk c')) from by rw [z]; exact upd_same, this]
    · rw [upd_ne z]; exact upd_same
  refine qq _ _ (upd (upd W c' (LamX.CodeO c' (mk c').qual)) f (LamO f (mk c'))) μ H1 _ (k f c') ⟨⟨o.wsub.trans sW, fun a u h => ?_, fun a u h hx ht => ?_, o.pre, fun a h => o.live a (nn a h)⟩, ⟨W'a, s.nd, s.len, fun a ha => ?_, fun j a mo h1 h2 => ?_, T1, fun p hp => ?_⟩, sW, ⟨[], by simp⟩⟩ ⟨rfl, fun p hp => ?_⟩
  · by_cases z : a = f
    · subst z; exact .inr (.inl (o.live _ f0))
    · rw [upd_ne z] at h
      by_cases z2 : a = c'
      · subst z2; rw [upd_same] at h; cases h; exact .inr (.inr fun z => z.2.1 _ rfl)
      · rw [upd_ne z2] at h; exact o.wnew a u h
  · have h1 := o.fr a u h hx ht
    exact hE a u h1 (hP a u h1 ht)
  · rw [upd_ne (mf a ha), upd_ne (mc a ha)]; exact s.out a ha
  · have ha := List.mem_of_getElem? h1
    have q := (s.ob j a mo h1 h2).mono (μ' := []) sW (H' := H1) (fun u hu => hE a u hu (hP a u hu (s.plain ha hu).1))
    rwa [List.append_nil] at q
  · obtain ⟨ps, h3, _⟩ := T1 p hp
    obtain ⟨ps0, h30, _⟩ := s.tab p hp
    rw [upd_ne (fun z => by rw [z, f0] at h30; cases h30), upd_ne (fun z => by rw [z, c1] at h3; cases h3)]
    exact s.tw p hp
  · simp only [List.mem_cons, List.not_mem_nil, or_false] at hp
    rcases hp with rfl | rfl
    · exact upd_same
    · exact wcc
end
end Al
namespace Al
open PySem PyProof.Rows L2 Lm Gx
end Al
namespace Fx
open PySem PyProof.Rows L2 Al Gx
variable [Al.TabList]
theorem law_callT {P : Program} {w : World} {K : PySem.W.Frag} {mg mb : Str → Option Value} {CX : CXT} {k : Nat} {fa a : Addr} {cs : List (Addr × Addr)} {x : Str} {sp : Sp} {s₁ : Shared} {vs : List Value} {ns : List Int}
    (KX : K.In s₁.heap) (hns : s₁.heap.Ns mainGlobals mg) (hb : s₁.heap.Ns builtinsNs mb) (hbb : ∀ x : Str, x ≠ "__name__" → mb x = bootBuiltins x) (hlim : s₁.heap.NoLimit) (hg : s₁.gens = #[])
    (hT : ∀ p ∈ cs, s₁.heap.get? p.2 = some { cls := .none, data := .fields #[] }) (nT : ∀ p ∈ cs, K.lookup p.2 = none) (C : ∀ p ∈ cs, PySem.W.CodeHd s₁.heap p.1 p.2)
    (hbm : ∃ (bm : Addr) (ob : Obj), mg "__builtins__" = some (.ref bm) ∧ bm ≠ builtinsNs ∧ s₁.heap.get? bm = some ob ∧ ob.cls = .type "module" ∧ ob.dict = some builtinsNs ∧ ob.data = .plain)
    (ha : s₁.heap.get? a = some { cls := .type "list", data := .seq vs.toArray }) (hi : IntsAre vs ns) (hl : ns.length ≤ sizeLine) (hr : Room k callerA)
    (F : ∀ base : Heap, K.In base → base.Ns mainGlobals mg → (∀ p ∈ cs, LamX.TabB base mg p.1 p.2) → ∃ fd : FuncData, FnOkG P w K mg base CX k fa fd [x] sp ∧ Binds K fd [x] [])
    (hsp : ∀ H : Hp, (∀ p ∈ cs, H p.2 = some (.tbl #[])) → SqL K H a (ns.map V.int) → sp [.ref a] H (fun v _ => v = .bl true) fun _ _ _ => False)
    (hCX : ∀ H e s', CX [] H s₁ (fun _ _ _ => False) e s' → False) :
    codeAny (model P w) callerA (.call (.ref fa) ⟨[.ref a], []⟩) (fun r s' => r = .ok (.ret (.bool true)) ∧ OldK s₁.heap s'.heap ∧ s'.os = s₁.os ∧ AllBare s'.gens) s₁ := by
  have rv := vals_ints hi
  have lenV := hi.length
  have isT : ∀ b : Addr, b ∈ cs.map (·.2) → s₁.heap.get? b = some { cls := .none, data := .fields #[] } := fun b hb => by
    obtain ⟨p, hp, e⟩ := List.mem_map.mp hb
    rw [← e]
    exact hT p hp
  have aT : a ∉ cs.map (·.2) := fun z => by
    have q := isT a z
    rw [ha] at q
    have z' : Data.seq vs.toArray _ = Data.fields #[] := congrArg Obj.data (Option.some.inj q)
    cases z'
  have memT : ∀ p ∈ cs, p.2 ∈ cs.map (·.2) := fun p hp => List.mem_map.mpr ⟨p, hp, rfl⟩
  -- from an abstract heap in which nothing but the script and the tables may be tracked
  have core : ∀ H : Hp, (∀ p ∈ cs, H p.2 = some (.tbl #[])) → (∀ b, H b = none ∨ b ∈ cs.map (·.2) ∨ ∃ o xs, H b = some (.frz o (.lst xs))) → SqL K H a (ns.map V.int) → HOk P w H s₁.heap → (∀ b, H b ≠ none → b = a ∨ b ∈ cs.map (·.2)) → (H a ≠ none → K.lookup a = none) →
      codeAny (model P w) callerA (.call (.ref fa) ⟨[.ref a], []⟩) (fun r s' => r = .ok (.ret (.bool true)) ∧ OldK s₁.heap s'.heap ∧ s'.os = s₁.os ∧ AllBare s'.gens) s₁ := by
    intro H hH hO hS hok hA hK
    have base_of : ∀ {b : Addr} {o : Obj}, s₁.heap.get? b = some o → H b = none → (hidT s₁.heap H).get? b = some o := fun e n => hidT_get e n
    have noD : ∀ {b : Addr} {o : Obj}, s₁.heap.get? b = some o → (∀ vs n, o.data ≠ .seq vs n) → o.data ≠ .fields #[] → H b = none := fun {b o} e h1 h2 => by
      cases q : H b with
      | none => rfl
      | some u =>
        rcases hA b (by rw [q]; simp) with e' | e'
        · rw [e', ha] at e
          cases e
          exact (h1 _ _ rfl).elim
        · rw [isT b e'] at e
          cases e
          exact (h2 rfl).elim
    have noA : ∀ {b : Addr} {o : Obj} {es : Array DictEntry} {ep : Nat}, s₁.heap.get? b = some o → o.data = .dict es ep → H b = none := fun {b o es ep} e d => by
      refine noD e (fun vs n z => ?_) fun z => ?_
      · rw [d] at z
        cases z
      · rw [d] at z
        cases z
    have nsK : ∀ {b : Addr} {m : Str → Option Value}, s₁.heap.Ns b m → (hidT s₁.heap H).Ns b m := fun {b m} ⟨o, es, ep, e, d, r⟩ => ⟨o, es, ep, base_of e (noA e d), d, r⟩
    have hKb : K.In (hidT s₁.heap H) := fun b o e => base_of (KX b o e) (by
      cases q : H b with
      | none => rfl
      | some u =>
        rcases hA b (by rw [q]; simp) with e' | e'
        · rw [e'] at e q
          rw [hK (by rw [q]; simp)] at e
          cases e
        · obtain ⟨p, hp, ep⟩ := List.mem_map.mp e'
          rw [← ep, nT p hp] at e
          cases e)
    have hM : L2.Mod K mg (hidT s₁.heap H) := ⟨hKb, nsK hns, ⟨mb, nsK hb, hbb⟩, let ⟨mc, h1, h2⟩ := hlim; ⟨mc, nsK h1, h2⟩⟩
    have TB : ∀ p ∈ cs, LamX.TabB (hidT s₁.heap H) mg p.1 p.2 := fun p hp => by
      have hTp := hT p hp
      refine ⟨?_, ?_, fun z => ?_⟩
      · obtain ⟨o, us, file, tf, flags, tg, inF, text, tt, e1, r1, r2, r3, r4, r5, r6, r7, r8, hne⟩ := C p hp
        refine ⟨o, us, file, tf, flags, tg, inF, text, tt, base_of e1 (noD e1 (fun vs n z => ?_) fun z => ?_), r1, r2, r3, r4, r5, r6, r7, r8, hne⟩
        · rw [r2] at z
          cases z
        · rw [r2] at z
          cases z
          simp at r3
      · obtain ⟨bm, ob, b1, b2, b3, b4, b5, b6⟩ := hbm
        have nG : bm ≠ mainGlobals := fun q => by
          obtain ⟨o, es, ep, e, hd, _⟩ := hns
          rw [q, e] at b3
          cases b3
          rw [hd] at b6
          cases b6
        have nP : bm ≠ p.2 := fun q => by
          rw [q, hTp] at b3
          cases b3
          cases b6
        refine ⟨bm, ob, b1, b2, nG, nP, base_of b3 (noD b3 (fun vs n z => ?_) fun z => ?_), b4, b5, b6⟩
        · rw [b6] at z
          cases z
        · rw [b6] at z
          cases z
      · obtain ⟨o, es, ep, e, hd, _⟩ := hns
        rw [z, hTp] at e
        cases e
        cases hd
    have e0 : Env0 P w K mg (hidT s₁.heap H) callerA [] s₁ H := ⟨rfl, hM, fun b o e => of_hidT e, Nat.le_of_eq (hidT_size _ _), trivial, fun b hb => absurd (show b ∈ ([] : List Addr) from hb) (by simp), hok, .of_eq hg⟩
    obtain ⟨fd, FF, hbind⟩ := F _ hKb (nsK hns) TB
    refine codeAny_mono (FF.run callerA [] s₁ H ⟨[.ref a], []⟩ [.ref a] [.ref a] _ _ rfl hr e0 (hbind s₁ [.ref a] KX rfl) (.cons rfl .nil) (hsp H hH hS)) fun r s' h => ?_
    cases r with
    | error e => exact (hCX H e s' h).elim
    | ok fl =>
      cases fl with
      | next => exact False.elim h
      | brk => exact False.elim h
      | cont => exact False.elim h
      | ret u =>
        obtain ⟨v, H', os, bare, un, hok', r', q⟩ := h
        have q' : v = .bl true := q
        subst q'
        obtain rfl : u = Value.bool true := r'
        have key : ∀ b o, b ∉ cs.map (·.2) → s₁.heap.get? b = some o → s'.heap.get? b = some o := fun b o nb e => by
          cases q : H b with
          | none => exact un.keep b o e q (by intro z; exact absurd (show b ∈ ([] : List Addr) from z) (by simp)) (by simp)
          | some u =>
            rcases hO b with z | z | ⟨ob, xs, z⟩
            · rw [q] at z; cases z
            · exact absurd z nb
            · have z2 := un.frzs b ob _ z
              obtain ⟨e1, _⟩ := hok b _ z
              obtain ⟨e2, _⟩ := hok' b _ z2
              rw [e] at e1; cases e1
              exact e2
        have grown : ∀ p ∈ cs, ∃ more : Array Value, s'.heap.get? p.2 = some { cls := .none, data := .fields more } := fun p hp => by
          obtain ⟨more, z⟩ := un.tbls p.2 #[] (hH p hp)
          exact ⟨_, hok' p.2 _ z⟩
        refine ⟨rfl, ⟨fun b o e => ?_, fun b o e => ?_⟩, os, bare⟩
        · by_cases hb : b ∈ cs.map (·.2)
          · obtain ⟨p, hp, ep⟩ := List.mem_map.mp hb
            obtain ⟨more, hm⟩ := grown p hp
            rw [← ep] at e ⊢
            rw [hT p hp] at e
            cases e
            exact .inr (.inl ⟨((C p hp).tab (hT p hp)).isCodeTable, rfl, #[], more, rfl, by rw [Array.empty_append]; exact hm⟩)
          · exact .inl (key b o hb e)
        · by_cases hb : b ∈ cs.map (·.2)
          · obtain ⟨p, hp, ep⟩ := List.mem_map.mp hb
            obtain ⟨more, hm⟩ := grown p hp
            rw [← ep]
            exact ⟨_, hm⟩
          · exact ⟨o, key b o hb e⟩
  cases hk : K.lookup a with
  | some o =>
    have e := KX a o hk
    rw [ha] at e
    cases e
    refine core (fun b => if b ∈ cs.map (·.2) then some (.tbl #[]) else none) (fun p hp => if_pos (memT p hp)) (fun b => ?_) (.inr ⟨_, vs.toArray, _, hk, rfl, rfl, rfl, by rw [List.size_toArray, lenV]; exact hl, by simpa using rv⟩) (fun b u z => ?_) (fun b z => ?_) fun z => absurd (show (if a ∈ cs.map (·.2) then some (HO.tbl #[]) else none) = none from if_neg aT) z
    · by_cases hb : b ∈ cs.map (·.2)
      · exact .inr (.inl hb)
      · exact .inl (if_neg hb)
    · by_cases hb : b ∈ cs.map (·.2)
      · have z' := (if_pos hb).symm.trans z
        cases z'
        exact isT b hb
      · have z' := (if_neg hb).symm.trans z
        cases z'
    · by_cases hb : b ∈ cs.map (·.2)
      · exact .inr hb
      · exact absurd (if_neg hb) z
  | none =>
    refine core (fun b => if b = a then some (.frz { cls := .type "list", data := .seq vs.toArray } (.lst (ns.map V.int))) else if b ∈ cs.map (·.2) then some (.tbl #[]) else none) (fun p hp => (if_neg (show ¬ p.2 = a from fun z => aT (by rw [← z]; exact memT p hp))).trans (if_pos (memT p hp))) (fun b => ?_)
      (.inl (.inr ⟨{ cls := .type "list", data := .seq vs.toArray }, if_pos rfl⟩)) (fun b u z => ?_) (fun b z => ?_) fun _ => hk
    · by_cases hb : b = a
      · exact .inr (.inr ⟨_, _, if_pos hb⟩)
      · by_cases hb2 : b ∈ cs.map (·.2)
        · exact .inr (.inl hb2)
        · exact .inl ((if_neg hb).trans (if_neg hb2))
    · by_cases hb : b = a
      · have z' := (if_pos hb).symm.trans z
        cases z'
        rw [hb]
        exact ⟨ha, by rw [List.length_map]; exact hl, vs, _, rv, ha⟩
      · have z1 := (if_neg hb).symm.trans z
        by_cases hb2 : b ∈ cs.map (·.2)
        · have z' := (if_pos hb2).symm.trans z1
          cases z'
          exact isT b hb2
        · have z' := (if_neg hb2).symm.trans z1
          cases z'
    · by_cases hb : b = a
      · exact .inl hb
      · by_cases hb2 : b ∈ cs.map (·.2)
        · exact .inr hb2
        · exact absurd ((if_neg hb).trans (if_neg hb2)) z
def aLawS : ASp := fun xs M Φ _ => ∃ ns : List Int, xs = [.d (.scr (ns.map D.int))] ∧ M = [] ∧ ns.length ≤ 63 ∧ Φ (.d (.bl true)) []
/-- all that is tracked but the tables -/
def noTab (H : Hp) : Hp := fun a => match H a with | some (.tbl _) => none | o => o
theorem noTab_sub {H : Hp} : Same (noTab H) H := fun a o h => by
  unfold noTab at h
  split at h
  · cases h
  · exact h
theorem noTab_of {H : Hp} {a : Addr} {o : HO} (h : H a = some o) (n : ∀ ps, o ≠ .tbl ps) : noTab H a = some o := by
  unfold noTab
  split
  · rename_i ps e
    rw [h] at e
    exact absurd (Option.some.inj e) (n ps)
  · exact h
def BindF (x qual : Str) (st : Stmt) (ps : List Str) : Prop := ∀ (kV doc pm : Value) (an : Option Addr) (cdv ct : Value) (us : List Value), us.length = ps.length → bindArgs (PySem.W.fnOf x qual (defArgs st) (defBody st) (defScope st) .none kV doc pm an cdv ct) ⟨us, []⟩ = pure (ps.zip us)
def BindK (x qual : Str) (st : Stmt) (ps : List Str) (e : KwE) : Prop := ∀ (kV doc pm : Value) (an : Option Addr) (cdv ct : Value) (us ws : List Value), us.length = e.1 → ws.length = e.2.1.length →
  bindArgs (PySem.W.fnOf x qual (defArgs st) (defBody st) (defScope st) .none kV doc pm an cdv ct) ⟨us, e.2.1.zip ws⟩ = pure (ps.zip (pick e.2.2 us [] [] ws))
theorem BindK.ok {K : PySem.W.Frag} {x qual : Str} {st : Stmt} {ps : List Str} {e : KwE} {f : Addr} {fd : FuncData} (F : Fun K x qual st f fd) (h : BindK x qual st ps e) : KwOk K fd ps e := by
  obtain ⟨oc, od, kV, doc, pm, an, cdv, ct, osl, rfl, lk, hcd⟩ := F.ex
  exact ⟨fun s us ws _ l1 l2 => .of_eq (h kV doc pm an cdv ct us ws l1 l2), fun r1 r2 => pick_rel e.2.2 r1 .nil .nil r2⟩
section
variable {K : PySem.W.Frag} {h : Heap} {mg : Str → Option Value} {x qual m : Str} {st : Stmt} {ps : List Str} {kws : List KwE} {f C : Addr} {oc : Value} {od an : Option Addr} {sl : Array (Option Value)} {kV dc pm cd ct : Value}
theorem defat_mk (X : K.In h) (G : h.Ns mainGlobals mg) (a : PySem.W.nsIn K mainGlobals x = some (some (.ref f))) (l : K.lookup f = some ⟨oc, od, .func (PySem.W.fnOf x x (defArgs st) (defBody st) (defScope st) .none kV dc pm an cd ct), sl⟩)
    (c : PySem.W.codeIn K cd x = true) (k : PySem.W.keepIn K (.ref f) = true) (hb : BindF x x st ps) (hk : ∀ e ∈ kws, BindK x x st ps e) : DefAt K mg x st ps kws :=
  have F := fun_mk (st := st) l c k
  ⟨f, _, F, PySem.W.mg_of X G a, F.binds hb, fun e he => (hk e he).ok F⟩
theorem methdef_mk (a : PySem.W.findIn K (.ref C) m = some (some (.ref f))) (i : PySem.W.isFn K (.ref f) = true) (l : K.lookup f = some ⟨oc, od, .func (PySem.W.fnOf m qual (defArgs st) (defBody st) (defScope st) .none kV dc pm an cd ct), sl⟩)
    (c : PySem.W.codeIn K cd qual = true) (k : PySem.W.keepIn K (.ref f) = true) (hb : BindF m qual st ps) (hk : ∀ e ∈ kws, BindK m qual st ps e) : MethDef K C m qual st ps kws :=
  have F := fun_mk (st := st) l c k
  ⟨f, _, F, ⟨a, i, k⟩, F.binds hb, fun e he => (hk e he).ok F⟩
theorem mkdef_mk (X : K.In h) (G : h.Ns mainGlobals mg) (aC : PySem.W.nsIn K mainGlobals x = some (some (.ref C))) (mk : PySem.W.makesIn K C = true) (kc : PySem.W.keepIn K (.ref C) = true)
    (a : PySem.W.findIn K (.ref C) "__init__" = some (some (.ref f))) (i : PySem.W.isFn K (.ref f) = true) (l : K.lookup f = some ⟨oc, od, .func (PySem.W.fnOf "__init__" qual (defArgs st) (defBody st) (defScope st) .none kV dc pm an cd ct), sl⟩)
    (c : PySem.W.codeIn K cd qual = true) (k : PySem.W.keepIn K (.ref f) = true) (hb : BindF "__init__" qual st ps) (hk : ∀ e ∈ kws, BindK "__init__" qual st ps e) : MkDef K mg C x qual st ps kws :=
  have F := fun_mk (st := st) l c k
  ⟨f, _, F, ⟨mk, a, i, kc⟩, PySem.W.mg_of X G aC, F.binds hb, fun e he => (hk e he).ok F⟩
end
section
open PySem.W
variable {K : Frag} {h : Heap} {mg : Str → Option Value} {C : Addr} {bm : List Value} {newId : String} {dd : Option Addr} {cd : ClassData} {sl : Array (Option Value)}
theorem bx_ValueError : BaseX "ValueError" "ValueError.__new__" "ValueError.__init__" [.type "ValueError", .type "Exception", .type "BaseException", .type "object"] := ⟨PySem.F.excBase_ValueError, PySem.F.store_ValueError⟩
theorem xcat_mk {P : Program} {w : World} {x : Str} {fs : List Str} {fI : Addr} (X : K.In h) (G : h.Ns mainGlobals mg) (aC : nsIn K mainGlobals x = some (some (.ref C))) (T : GexC K C) (few : fs.length ≤ 1000) (iC : findIn K (.ref C) "__init__" = some (some (.ref fI)))
    (tI : typeIn K (.ref fI) = some (.type "function")) (hI : Inits P w K C fI fs) : XcAt P w K mg C x fs := ⟨T, mg_of X G aC, few, fI, iC, tI, hI⟩
end
end Fx
namespace Cb
open PySem PySem.Spec PyProof.Rows L2 LamX NdefX Lm
/-- captured cells, their names, what they hold -/
structure CB where
  cl : List (Str × Addr)
  fr : List Str
  ws : List (Option V)
/-- they hold that in the heap h; none is a caller's frame -/
def All (Cs : List CB) (h : Heap) (H : Hp) (outer : List Env) : Prop := ∀ c ∈ Cs, CellsAt c.cl c.fr c.ws h H ∧ ∀ y a, c.cl.lookup y = some a → a ∉ frs outer
theorem All.cons {c : CB} {Cs : List CB} {h : Heap} {H : Hp} {outer : List Env} (h1 : All [c] h H outer) (h2 : All Cs h H outer) : All (c :: Cs) h H outer := fun d hd => (List.mem_cons.mp hd).elim (fun e => h1 d (e ▸ List.mem_cons_self)) (h2 d)
section
variable {X : Cx} {pins : List (Addr × Obj)} {σ : L2.St} {H : Hp} {s : Shared} {Cs : List CB}
/-- the running frame's own cells -/
theorem All.made {cl : List (Str × Addr)} {fr : List Str} {js : List Nat} (I : Inv X pins σ H s) (hf : ∀ x, X.fn x = true) (cp : X.Ok → Caps X cl fr js) : All [⟨cl, fr, js.map (slotAt σ)⟩] s.heap H X.stack := fun c hc => by
  rw [List.mem_singleton.mp hc]
  refine ⟨cells_of I (cp I.ok), fun y a e hb => ?_⟩
  have e2 := (cp I.ok).sub y a e
  rcases List.mem_cons.mp (I.stkSub a hb) with z | z
  · exact I.cne y a e2 z
  · obtain ⟨_, o, ho, _⟩ := I.ok.funs.mem z
    exact absurd (Nat.lt_of_lt_of_le (Heap.lt_size ho) (I.ok.cab y a (hf y) e2)) (Nat.lt_irrefl _)
theorem lamFn {f : Addr} {F : LF} (I : Inv X pins σ H s) (e : H f = some (LamO f F)) : PySem.W.FnAt f s.heap := by
  obtain ⟨od, sl, pm, ctv, ho⟩ := lamO_at I.hok e
  exact ⟨_, od, _, sl, ho⟩
end
def nfOf (F : LF) : NF := ⟨"<lambda>", F.qual, F.params, [], F.scope, F.cl, F.c⟩
/-- the promise of the lambda F at f, its captured cells holding ws, others' cells as Cs tells -/
structure LOk (P : Program) (w : World) (K : PySem.W.Frag) (mg : Str → Option Value) (base : Heap) (CX : CXT) (k : Nat) (f : Addr) (F : LF) (ps fr : List Str) (ws : List (Option V)) (Cs : List CB) (sp : Sp) : Prop where
  len : ∀ vs H Q E, sp vs H Q E → vs.length = ps.length
  run : ∀ (A : Around) (outer : List Env) (s : Shared) (H : Hp) (us : List Value) (vs : List V) (Q : VK) (E : XK), Room k A → Env0 P w K mg base A outer s H → H f = some (LamO f F) → H F.c = some (CodeO F.c F.qual) →
    All (⟨F.cl, fr, ws⟩ :: Cs) s.heap H outer → Vals vs us → sp vs H Q E → codeAny (model P w) A (.call (.ref f) ⟨us, []⟩) (CR CX outer P w H s Q E) s
section
variable {CX : CXT} {P : Program} {w : World} {K : PySem.W.Frag} {mg : Str → Option Value} {base : Heap} {N ps fr : List Str} {F : LF} {f : Addr} {k j : Nat} {sp sp' : Sp} {ws : List (Option V)} {Cs : List CB}
theorem LOk.mono (o : LOk P w K mg base CX j f F ps fr ws Cs sp) (h : j ≤ k) : LOk P w K mg base CX k f F ps fr ws Cs sp := ⟨o.len, fun A outer s H us vs Q E hr => o.run A outer s H us vs Q E (hr.mono h)⟩
theorem LOk.imp (o : LOk P w K mg base CX k f F ps fr ws Cs sp) (h : ∀ vs H Q E, sp' vs H Q E → sp vs H Q E) : LOk P w K mg base CX k f F ps fr ws Cs sp' :=
  ⟨fun vs H Q E q => o.len vs H Q E (h _ _ _ _ q), fun A outer s H us vs Q E hr e0 hf hc C r q => o.run A outer s H us vs Q E hr e0 hf hc C r (h _ _ _ _ q)⟩
/-- a lambda by its body -/
theorem lok_of (S : NScope N ps fr F.scope) (hb : ∀ (pm ctv : Value) (us : List Value), us.length = ps.length → bindArgs (PySem.W.kla_fn "<lambda>" F.qual F.params F.body F.scope F.cl pm (.ref F.c) ctv) ⟨us, []⟩ = pure (ps.zip us)) (len : ∀ vs H Q E, sp vs H Q E → vs.length = ps.length)
    (hbody : ∀ (A : Around) (outer : List Env) (s : Shared) (H : Hp) (vs : List V) (Q : VK) (E : XK), Room k (A.deeper (envF (nfOf F) f s.heap.objs.size)) → All (⟨F.cl, fr, ws⟩ :: Cs) s.heap H outer → sp vs H Q E →
      ∃ t, PE (ncx CX P w K mg base N (nfOf F) f A outer s H E) F.body t ∧ t (startF N vs ws) H Q) :
    LOk P w K mg base CX (k + 1) f F ps fr ws Cs sp := by
  refine ⟨len, fun A outer s H us vs Q E hr e0 hf hc C r hsp => ?_⟩
  have hl := len _ _ _ _ hsp
  have lim : s.heap.NoLimit := e0.mod.nolimit.keeps fun b o e => (e0.bs b o e).1
  obtain ⟨od, sl, pm, ctv, ho⟩ := lamO_at e0.hok hf
  refine PySem.W.kla_callFunE hr.depth ho rfl S.co S.gen rfl (codeO_at e0.hok hc) ?_
  rw [hb pm ctv us (by rw [← r.length]; exact hl)]
  refine wpAny_pure (wpAny_newFunctionEnv S.nocell (fun ⟨n, _⟩ hy => S.par n (List.of_mem_zip hy).1) (fun h₁ hns hsb => ⟨lim.fresh _ hsb, ?_⟩) S.kind)
  show codeAny _ _ (.expr F.body (envF (nfOf F) f s.heap.objs.size)) _ _
  have kp : ∀ b o, s.heap.get? b = some o → h₁.get? b = some o := fun b o e => hsb.extBut b o (Nat.ne_of_lt (Heap.lt_size e)) (Heap.get?_push_of_some _ e)
  obtain ⟨t, ht, hq⟩ := hbody A outer s H vs Q E (hr.deeper _) C hsp
  have I : Inv (ncx CX P w K mg base N (nfOf F) f A outer s H E) [] (startF N vs ws) H { s with heap := h₁, toks := s.toks + (ps.zip us).length } := inv_startN (F := nfOf F) S hr.hd e0 hl r (C _ List.mem_cons_self).1 hns kp
  refine PySem.W.kla_codeExpr (wpAny_mono (ht.run [] _ (startF N vs ws) H Q I hq) (fun u s' hs => ?_) fun e s' hs => hs)
  obtain ⟨v, H', J, rv, q⟩ := hs
  exact ⟨v, H', J.os, J.bare, J.base, J.hok, rv, q⟩
end
/-- f(..), f a name that holds the lambda F at f -/
def tCallV (i : Nat) (f : Addr) (F : LF) (sp : Sp) (E : XK) (t : TA) : TE := fun σ H Q => σ[i]? = some (some (.ref f)) ∧ H f = some (LamO f F) ∧ t σ H fun vs H1 => H1 f = some (LamO f F) ∧ H1 F.c = some (CodeO F.c F.qual) ∧ sp vs H1 Q E
section
variable {X : Cx} {CX : CXT} {ps fr : List Str} {i j k : Nat} {x : Str} {f : Addr} {F : LF} {ws : List (Option V)} {Cs : List CB} {sp : Sp} {E : XK} {t : TA} {e : Expr} {es : List Expr} {p pos : Pos}
theorem pe_callV (L : LOk X.prog X.w X.K X.mg X.base CX k f F ps fr ws Cs sp) (hC : ∀ {pins : List (Addr × Obj)} {σ : L2.St} {H : Hp} {s : Shared}, Inv X pins σ H s → All (⟨F.cl, fr, ws⟩ :: Cs) s.heap H X.stack) (hr : Room k X.A) (hx : Passes CX X E)
    (hN : X.N[i]? = some x) (hv : Vis X.env.scope x) (ha : PA X (e :: es) t) (hd : (x == ("__debug__" : Str)) = false := by decide) (hcd : (x == ("__classdict__" : Str)) = false := by decide)
    (he : starEach (e :: es) X.env = (false, eval e X.env) :: starEach es X.env := by rfl) (hpl : (backTo pos (starEach es X.env)).any (·.1) = false := by rfl) :
    PE X (.Call (.Name x p) (e :: es) [] pos) (tCallV i f F sp E t) := by
  refine ⟨fun pins s σ H Q I h => ?_⟩
  obtain ⟨hs, hf, ht⟩ := h
  refine wpAny_Call_Name_kw (thn ((pe_var (pos := p) hN hv hd hcd).run pins s σ H (fun v H1 => v = .ref f ∧ H1 = H) I ⟨.ref f, hs, rfl, rfl⟩) fun u s1 ⟨v, H1, I1, r1, q1⟩ => ?_)
  obtain ⟨ev, eH⟩ := q1
  subst ev
  rw [eH] at I1
  obtain rfl : u = Value.ref f := r1
  refine PySem.W.callWith_F (first := []) (lamFn I1 hf) (thn (ha.run pos pins s1 σ H _ I1 ht) fun us s2 ⟨vs, H2, I2, r, h1, h2, q⟩ => ⟨lamFn I2 h1, ?_⟩) he hpl
  show wpAny _ _ (call (.ref f) us) _ _ _
  refine wpAny_call (codeAny_mono (L.run X.A X.stack s2 H2 us vs Q E hr I2.env0 h1 h2 (hC I2) r q) fun r s' hq => ?_)
  cases r with
  | error e => exact hx pins σ H2 s2 e s' I2 hq
  | ok fl =>
    cases fl with
    | ret u => exact I2.after hq
    | next => exact False.elim hq
    | brk => exact False.elim hq
    | cont => exact False.elim hq
end
/-- a def that is handed lambdas: the cells of Cs hold what they do -/
structure FnOkB (P : Program) (w : World) (K : PySem.W.Frag) (mg : Str → Option Value) (base : Heap) (CX : CXT) (k : Nat) (f : Addr) (fd : FuncData) (ps : List Str) (Cs : List CB) (sp : Sp) : Prop where
  len : ∀ vs H Q E, sp vs H Q E → vs.length = ps.length
  run : ∀ (A : Around) (outer : List Env) (s : Shared) (H : Hp) (args : Args) (us : List Value) (vs : List V) (Q : VK) (E : XK), Room k A → Env0 P w K mg base A outer s H → All Cs s.heap H outer → BindsTo s fd args (ps.zip us) → Vals vs us → sp vs H Q E →
    codeAny (model P w) A (.call (.ref f) args) (CR CX outer P w H s Q E) s
/-- g(..), lambdas handed over: which ones (z) is known at the call -/
def tCallI {ι : Type} (Sel : L2.St → ι → Prop) (sp : ι → Sp) (E : XK) (t : TA) : TE := fun σ H Q => t σ H fun vs H1 => ∃ z, Sel σ z ∧ sp z vs H1 Q E
section
variable {X : Cx} {CX : CXT} {ps : List Str} {k : Nat} {x : Str} {g : Addr} {fd : FuncData} {ι : Type} {Cs : ι → List CB} {sp : ι → Sp} {Sel : L2.St → ι → Prop} {E : XK} {t : TA} {e : Expr} {es : List Expr} {p pos : Pos}
theorem pe_callI (Fn : ∀ z, FnOkB X.prog X.w X.K X.mg X.base CX k g fd ps (Cs z) (sp z)) (hC : ∀ {pins : List (Addr × Obj)} {σ : L2.St} {H : Hp} {s : Shared} {z : ι}, Inv X pins σ H s → Sel σ z → All (Cs z) s.heap H X.stack)
    (hr : Room k X.A) (hg : Gl X x) (hm : X.mg x = some (.ref g)) (hk : PySem.W.keepIn X.K (.ref g) = true) (hb : Binds X.K fd ps []) (hx : Passes CX X E) (ha : PA X (e :: es) t)
    (hdb : (x == ("__debug__" : Str)) = false := by decide) (he : starEach (e :: es) X.env = (false, eval e X.env) :: starEach es X.env := by rfl) (hpl : (backTo pos (starEach es X.env)).any (·.1) = false := by rfl) :
    PE X (.Call (.Name x p) (e :: es) [] pos) (tCallI Sel sp E t) := by
  refine ⟨fun pins s σ H Q I h => ?_⟩
  refine wpAny_Call_Name_kw (ld_glob I hg hm ?_ hdb)
  refine PySem.W.callWith_K (h₀ := X.base) I.ok.mod.kin hk (thn (ha.run pos pins s σ H _ I h) fun us s1 ⟨vs, H1, I1, r, z, hz, q⟩ => ⟨I1.kIn, ?_⟩) he hpl
  have hl : us.length = ps.length := by rw [← r.length]; exact (Fn z).len _ _ _ _ q
  have hb1 : BindsTo s1 fd ⟨us, []⟩ (ps.zip us) := by
    have := hb s1 us I1.kIn (by rw [List.append_nil]; exact hl)
    rwa [List.append_nil] at this
  refine wpAny_call (codeAny_mono ((Fn z).run X.A X.stack s1 H1 ⟨us, []⟩ us vs Q E hr I1.env0 (hC I1 hz) hb1 r q) fun r s' hq => ?_)
  cases r with
  | error e => exact hx pins σ H1 s1 e s' I1 hq
  | ok fl =>
    cases fl with
    | ret u => exact I1.after hq
    | next => exact False.elim hq
    | brk => exact False.elim hq
    | cont => exact False.elim hq
end
end Cb
namespace Al
open PySem PyProof.Rows L2
end Al
namespace Al
open PySem PyProof.Rows L2 Gx
end Al
namespace Al
open PySem PyProof.Rows L2 Gx Lm Cb NdefX
variable [Al.TabList]
section
variable {K : PySem.W.Frag} {W : Hp} {μ : List Addr}
theorem conc_core {M : List MO} {zs : List AV} {t : TS} {N : List Str} {vs : List V} {H : Hp} {Q : VK} {E : XK} (s : Sim K W μ M H) (r : RAs K W μ zs vs)
    (body : EFits ⟨W, μ, H⟩ K (XT M.length fun x M' => ∀ W' μ' H' cls d, Go ⟨W, μ, H⟩ K W μ W' μ' M' H' → RX K W' H' x cls d → E cls d H') E →
      AS ⟨W, μ, H⟩ K t (startA N zs) M (defEnds M.length fun x M' => ∀ W' μ' H' v, Go ⟨W, μ, H⟩ K W μ W' μ' M' H' → RA K W' μ' x v → Q v H')) : t { nx := fun _ H' => Q .non H', rt := Q } (L2.start N vs) H := by
  refine body (fun x M1 W1 μ1 H1 cls d ⟨n, hn, hb, p⟩ o1 s1 rx => ?_) W μ H _ Ok.refl s (re_start r) _ ⟨fun σ M1 W1 μ1 H1 τ hz g e => ?_, fun x M1 W1 μ1 H1 v hz g rv => ?_, fun _ _ _ _ _ _ q => q.elim, fun _ _ _ _ _ _ q => q.elim⟩
  · have g : Go ⟨W, μ, H⟩ K W μ W1 μ1 M1 H1 := ⟨o1, s1, o1.wsub, let ⟨e, h, _⟩ := o1.pre; ⟨e, h⟩⟩
    exact p _ _ _ _ _ (go_cut g (by rw [s.len]; exact hn) (by show μ.length ≤ n; rw [s.len]; exact hn) hb) rx
  · rcases hz with ⟨n, y, hn, z, hb, p⟩ | ⟨k, o, ex, _⟩ | hz
    · obtain ⟨W2, g2, r2⟩ := froz_run (v := .non) g (by rw [s.len]; exact hn) (by show μ.length ≤ n; rw [s.len]; exact hn) hb z rfl
      exact p _ _ _ _ g2 r2
    · cases ex
    · obtain ⟨W2, μ2, y, M2, g2, r2, p⟩ := hz ⟨W, μ, H⟩ K W μ W1 μ1 H1 .non s.len s.len g rfl
      exact p _ _ _ _ g2 r2
  · rcases hz with ⟨n, y, hn, z, hb, p⟩ | ⟨k, o, ex, hk, ho, hd, hb, p⟩ | hz
    · obtain ⟨W2, g2, r2⟩ := froz_run g (by rw [s.len]; exact hn) (by show μ.length ≤ n; rw [s.len]; exact hn) hb z rv
      exact p _ _ _ _ g2 r2
    · subst ex
      obtain ⟨a, ha, rfl⟩ := rv
      have g3 := go_pick g (n := M.length) (by rw [s.len]; exact Nat.le_refl _) (by show μ.length ≤ _; rw [s.len]; exact Nat.le_refl _) hb hk ha ho hd
      have hl : k < M1.length := (List.getElem?_eq_some_iff.mp ho).1
      have hμ : (μ1.take M.length).length = M.length := by rw [List.length_take, g.sim.len]; omega
      exact p _ _ _ _ g3 ⟨a, by rw [List.getElem?_append_right (by omega), hμ, Nat.sub_self]; rfl, rfl⟩
    · obtain ⟨W2, μ2, y, M2, g2, r2, p⟩ := hz ⟨W, μ, H⟩ K W μ W1 μ1 H1 v s.len s.len g rv
      exact p _ _ _ _ g2 r2
end
/-- the promise of a lambda: behind the arguments stand the captured values -/
def concL (K : PySem.W.Frag) (asp : ASp) (wsv : List V) : Sp := fun vs H Q E => conc K asp (vs ++ wsv) H Q E
/-- which lambda: made of the code object at c', at f, with what the frame's names hold at the call -/
def SelM {ι : Type} (mkz : Addr → Addr → List V → ι) (js : List Nat) (τ : L2.St) (z : ι) : Prop := ∃ f c' wsv, z = mkz f c' wsv ∧ js.map (slotAt τ) = wsv.map some
section
variable {B : Base} {K : PySem.W.Frag} {σ : AEnv} {M : List MO} {ta : TA} {Φ : AV → List MO → Prop}
theorem slots_of {W : Hp} {μ : List Addr} {τ : L2.St} (e : RE K W μ σ τ) : ∀ {js : List Nat} {caps : List AV}, js.map (fun j => σ[j]?) = caps.map (fun a => some (some a)) → ∃ wsv, js.map (slotAt τ) = wsv.map some ∧ RAs K W μ caps wsv
  | [], [], _ => ⟨[], rfl, rfl⟩
  | [], _ :: _, h => by cases h
  | _ :: _, [], h => by cases h
  | j :: js, a :: caps, h => by
    rw [List.map_cons, List.map_cons] at h
    obtain ⟨h1, h2⟩ := List.cons.inj h
    obtain ⟨v, h3, h4⟩ := e.2 j a h1
    obtain ⟨wsv, h5, h6⟩ := slots_of e h2
    exact ⟨v :: wsv, by rw [List.map_cons, List.map_cons, h5, slotAt_of h3], ras_cons h4 h6⟩
end
end Al
namespace Dt
open PySem PySem.Spec PyProof.Rows L2
section
variable {X : Cx}
/-- k in d, k not in d -/
def rInD (neg : Bool) : R2 := fun y x H Q => ∃ a o, x = .ref a ∧ DGet H a y o ∧ Q (.bl (if neg then !o.isSome else o.isSome)) H
theorem op_inD (hu : X.A.units + 1 < cLine) : OpR X (compareOp .In) (rInD false) := by
  intro pins s σ H y x u v Q I ry rx h
  obtain ⟨a, o, rfl, g, q⟩ := h
  obtain rfl : v = Value.ref a := rx
  exact d_in hu I g ry fun s' I' => ⟨.bl _, H, I', rfl, q⟩
theorem op_notInD (hu : X.A.units + 1 < cLine) : OpR X (compareOp .NotIn) (rInD true) := by
  intro pins s σ H y x u v Q I ry rx h
  obtain ⟨a, o, rfl, g, q⟩ := h
  obtain rfl : v = Value.ref a := rx
  exact d_notIn hu I g ry fun s' I' => ⟨.bl _, H, I', rfl, q⟩
/-- d[k], there -/
def rIxD : R2 := fun x y H Q => ∃ a v, x = .ref a ∧ DGet H a y (some v) ∧ Q v H
theorem ix_dict (hu : X.A.units + 1 < cLine) : IxR X rIxD := by
  intro value slice pins s σ H x y v u Q I rx ry h hs
  obtain ⟨a, z, rfl, g, q⟩ := h
  obtain rfl : v = Value.ref a := rx
  have hT := dict_typeIs I g
  unfold subscriptTail
  refine wpAny_bind ?_
  rw [getitemInPython_of_ne hT.not_modules]
  refine wpAny_bind (wpAny_specialOf hT PySem.F.slot_dict_getitem.lookup ?_)
  have fin : wpAny (model X.prog X.w) X.A (subscripted slice false (.ref a) u) (fun r s₃ => wpAny (model X.prog X.w) X.A (letTemporaryGo value (.ref a) r >>= fun _ => pure r) (EP X pins σ Q) X.xe s₃) X.xe s := by
    rw [hs]
    exact wpAny_operating (d_getItem hu I g ry fun w' s' I' rw' => wpAny_bind (wpAny_letTemporaryGo (wpAny_pure ⟨z, H, I', rw', q⟩)))
  first
    | exact wpAny_pure (wpAny_bind fin)
    | exact wpAny_bind (wpAny_pure (wpAny_bind fin))
    | exact wpAny_bind fin
/-- d[k] = v -/
def rSetD : V → V → V → Hp → (Hp → Prop) → Prop := fun o i v H Q => ∃ a H', o = .ref a ∧ DPut H a i v H' ∧ Q H'
theorem set_dict (hu : X.A.units + 1 < cLine) : PSet X rSetD := by
  intro pins s σ H o i v ov iv u Q I ro ri rv h
  obtain ⟨a, H', rfl, g, q⟩ := h
  obtain rfl : ov = Value.ref a := ro
  exact d_setItem hu I g ri rv fun s' I' => ⟨H', I', q⟩
/-- an expression's dict is locked for good -/
def tLockV (t : TE) : TE := fun σ H Q => t σ H fun v H1 => ∃ d u, v = .ref d ∧ H1 d = some u ∧ Mut (some u) ∧ ∀ od, Q v (upd H1 d (.frz od u))
theorem pe_lockV {e : Expr} {t : TE} (h : PE X e t) : PE X e (tLockV t) := by
  refine ⟨fun pins s σ H Q I hw => ?_⟩
  refine thn (h.run pins s σ H _ I hw) fun v s1 ⟨x, H1, I1, r, d, u, ex, hd, mu, q⟩ => ?_
  obtain ⟨od, I2⟩ := I1.lock hd mu
  exact ⟨x, _, I2, r, q od⟩
/-- the keys of a locked dict, one by one -/
def iKeysT (td : TE) : TI := fun σ H R => td σ H fun x H1 => ∃ d o kvs, x = .ref d ∧ H1 d = some (.frz o (.dT kvs)) ∧ R (Itkt d o kvs) H1
theorem pi_keysT {tg e : Expr} {td : TE} (he : PE X e td) : PI X tg e (iKeysT td) := by
  refine ⟨fun pins s σ H R I h => ?_⟩
  refine thn (he.run pins s σ H _ I h) fun u s1 ⟨x, H1, I1, rx, d, o, kvs, ex, hd, q⟩ => ?_
  subst ex
  obtain rfl : u = Value.ref d := rx
  obtain ⟨hs, hgd, hx, es, ep, hdt, hsz, ent⟩ := I1.frzT hd
  refine iter_keys hs hgd hx hdt (pi_one (tk := s1.toks) I1 _ (turn_keysT _ hdt) ⟨_, Heap.get?_push_size _ rfl, rfl, ?_⟩ q)
  rw [hsz] <;> rfl
end
end Dt
namespace Dt
open PySem PySem.Spec PyProof.Rows L2
theorem d_dictSetT {X : Cx} {pins : List (Addr × Obj)} {σ : L2.St} {H : Hp} {s : Shared} {E : Value → Shared → Prop} {D b : Addr} {kvs : List (List Key × V)} {k : List Key} {v : V} {u r : Value} {Q : Unit → Shared → Prop} (hu : X.A.units < cLine) (I : Inv X pins σ H s) (hD : H D = some (.dT kvs)) (hz : kvs.length < sizeLine)
    (eb : H b = some (.tup (k.map kV))) (ry : RelV (.ref b) u) (rv : RelV v r) (h : ∀ s', Inv X pins σ (upd H D (.dT (putK kvs k v))) s' → Q () s') : wpAny (model X.prog X.w) X.A (dictSet D u r) Q E s := by
  obtain rfl : u = Value.ref b := ry
  obtain ⟨z, hd, xs, rel, dd⟩ := dt_of I.hok hD
  have hz : xs.length ≤ sizeLine := by rw [← Paired.length rel]; exact z
  have hl : (putK kvs k v).length ≤ sizeLine := by have := length_putK kvs k v; omega
  refine wpAny_dictSet_heap (hsz := hz) hu (key_of I.hok eb) dd fun h' dd' hs => h _ ?_
  obtain ⟨q, es, ep, hq, h2, h3, h4, _, h5⟩ := dd'
  refine d_write (ob := .dT (putK kvs k v)) (t' := s.toks + (tupleKind (mixKind X.prog X.w)).draws k) I (by rw [hD]; exact True.intro) hs ⟨q, hq⟩ ⟨hl, hd, _, (rel.put k eb rv).keeps fun c ys ec => ?_, q, es, ep, hq, h2, h3, h4, h5⟩
  rw [upd_ne (ne_of ec hD (fun z => nomatch z))]
  exact ec
section
variable {X : Cx}
/-- a key that is a tuple -/
def PutT : Addr → Hp → V → V → Hp → Prop := fun D H y z H' => ∃ kvs k b, y = .ref b ∧ H b = some (.tup (k.map kV)) ∧ H D = some (.dT kvs) ∧ kvs.length < sizeLine ∧ H' = upd H D (.dT (putK kvs k z))
end
end Dt
namespace Dt
open PySem PySem.Spec PyProof.Rows L2
/-- what a display writes: keys at bs -/
def mergeT (kvs more : List (List Key × V)) : List (List Key × V) := more.foldl (fun acc kv => putK acc kv.1 kv.2) kvs
theorem mergeT_len : ∀ (more kvs : List (List Key × V)), (mergeT kvs more).length ≤ kvs.length + more.length
  | [], kvs => by show kvs.length ≤ kvs.length + 0; omega
  | p :: r, kvs => by
    have h1 := mergeT_len r (putK kvs p.1 p.2)
    have h2 := length_putK kvs p.1 p.2
    show (mergeT (putK kvs p.1 p.2) r).length ≤ _
    rw [List.length_cons]; omega
/-- the pairs, by their keys' tuples -/
def KeysAre (H : Hp) : List (V × V) → List (List Key × V) → Prop := Paired fun p kv => ∃ b, p.1 = .ref b ∧ H b = some (.tup (kv.1.map kV)) ∧ p.2 = kv.2
section
variable {P : Program} {w : World} {H : Hp} {h : Heap}
theorem carriesT (ok : HOk P w H h) : ∀ {ps : List (V × V)} {kvs : List (List Key × V)} {ws : List (Value × Value)}, KeysAre H ps kvs → VV ps ws → ∃ xs, CarriesH (tupleKind (mixKind P w)) h ws xs ∧ KT H kvs xs
  | [], _, _, k, r => by cases k; cases r; exact ⟨[], trivial, .nil⟩
  | p :: ps, _, _, k, r => by
    cases k with
    | @cons _ kv _ kvs h1 t1 =>
      cases r with
      | @cons _ q _ ws h2 t2 =>
        obtain ⟨xs, c, kt⟩ := carriesT ok t1 t2
        obtain ⟨b, e1, e2, e3⟩ := h1
        obtain ⟨r1, r2⟩ := h2
        rw [e1] at r1
        have r1 : q.1 = Value.ref b := r1
        exact ⟨(kv.1, b, q.2) :: xs, ⟨r1, rfl, key_of ok e2, c⟩, .cons ⟨rfl, e2, by rw [← e3]; exact r2⟩ kt⟩
theorem KT.merge : ∀ {more : List (List Key × V)} {rs : List (List Key × Addr × Value)} {kvs : List (List Key × V)} {xs : List (List Key × Addr × Value)}, KT H more rs → KT H kvs xs → KT H (mergeT kvs more) (storedAllH xs rs) := by
  intro more rs kvs xs r
  unfold KT at r
  induction r generalizing kvs xs with
  | nil => intro q; exact q
  | @cons p q ps qs h t ih =>
    intro r0
    have e : KT H (putK kvs p.1 p.2) (storedH xs q.1 q.2.1 q.2.2) := by
      have := KT.put r0 p.1 h.2.1 h.2.2
      rw [← h.1]; exact this
    exact ih e
end
/-- {k: v, ..} with keys that are tuples; the new dict stands empty while the pairs are made -/
def tDispT (trs : List (TE × TE)) : TE := fun σ H Q => ∀ p, H p = none → tPairs trs σ (upd H p (.dT [])) fun ps H2 => H2 p = some (.dT []) ∧ ∃ kvs : List (List Key × V), KeysAre H2 ps kvs ∧ kvs.length ≤ 15 ∧ Q (.ref p) (upd H2 p (.dT (mergeT [] kvs)))
theorem pe_dispT {X : Cx} {pos : Pos} {keys : List (Option Expr)} {values : List Expr} {trs : List (TE × TE)} (hu : X.A.units < cLine) (h : PPs X pos keys values trs) (hall : keys.all (·.isSome) = true) (hl : keys.length = values.length) (h0 : keys ≠ [])
    (h15 : keys.length ≤ 15) : PE X (.Dict keys values pos) (tDispT trs) := by
  refine ⟨fun pins s σ H Q I q => ?_⟩
  have hn := I.hok.fresh (Nat.le_refl s.heap.objs.size)
  have I1 := I.laid (a := s.heap.objs.size) (o := .dT []) (h' := s.heap.push { cls := .type "dict", data := .dict #[] }) (t' := s.toks) (fun _ _ q => Heap.get?_push_of_some _ q) (Nat.le_refl _) (dt_empty s.heap I.big)
  have hpl := pairTrees_length keys values X.env pos hall hl
  have hp0 : pairTrees keys values X.env pos ≠ [] := fun e => h0 (List.length_eq_zero_iff.mp (by rw [← hpl, e]; rfl))
  rw [arm_eval_Dict, zip_pairTrees keys values X.env pos hall hl, dictDisplay_pairs (pairTrees keys values X.env pos) hp0 (by omega)]
  refine wpAny_bind (wpAny_standAt (wpAny_bind (wpAny_subDictH (knd := tupleKind (mixKind X.prog X.w)) (Q := fun d s' => wpAny (model X.prog X.w) X.A (pure (Value.ref d)) (EP X pins σ Q) X.xe s') hu (by rw [hpl]; exact h15)
    (thn (h.run pins _ σ _ _ I1 (q _ hn)) fun ws s2 ⟨ps, H2, I2, rel, e, kvs, ka, lk, q2⟩ => ?_))))
  obtain ⟨z, hd, vs0, r0, dd⟩ := dt_of I2.hok e
  cases r0
  obtain ⟨rs, c, kt⟩ := carriesT I2.hok ka rel
  refine ⟨rs, c, dd, fun h' tk dd' hs => wpAny_pure ⟨.ref s.heap.objs.size, _, ?_, rfl, q2⟩⟩
  obtain ⟨qo, es, ep, hq, h2, h3, h4, _, h5⟩ := dd'
  have hz : (mergeT [] kvs).length ≤ sizeLine := by
    have h1 := mergeT_len kvs []
    rw [List.length_nil] at h1
    rw [sizeLine_eq]; omega
  refine d_write (ob := .dT (mergeT [] kvs)) (t' := tk) I2 (by rw [e]; exact True.intro) hs ⟨qo, hq⟩ ⟨hz, hd, _, (KT.merge kt .nil).keeps fun b ys eb => ?_, qo, es, ep, hq, h2, h3, h4, h5⟩
  rw [upd_ne (ne_of eb e (fun z => nomatch z))]
  exact eb
end Dt
namespace Al
open PySem PyProof.Rows L2 Gx Dt
variable [Al.TabList]
abbrev KD := List (List Key × D)
/-- a dict that changes; one that never does -/
def dM (kvs : KD) : MO := .dT (kvs.map Prod.fst) (kvs.map fun p => .d p.2)
def dD (kvs : KD) : D := .dT (kvs.map Prod.fst) (kvs.map Prod.snd)
def valG {κ α : Type} [DecidableEq κ] (kvs : List (κ × α)) (k : κ) : Option α := (kvs.find? fun kv => decide (kv.1 = k)).map (·.2)
def putG {κ α : Type} [DecidableEq κ] (kvs : List (κ × α)) (k : κ) (v : α) : List (κ × α) :=
  if (kvs.any fun kv => decide (kv.1 = k)) = true then kvs.map (fun kv => if kv.1 = k then (kv.1, v) else kv) else kvs ++ [(k, v)]
/-- key by key, value by value -/
def RK {κ : Type} (K : PySem.W.Frag) (W : Hp) : List (κ × D) → List (κ × V) → Prop
  | [], [] => True
  | p :: kvs, q :: cvs => p.1 = q.1 ∧ RD K W p.2 q.2 ∧ RK K W kvs cvs
  | _, _ => False
section
variable {κ : Type} {K : PySem.W.Frag} {W W' : Hp}
theorem RK.of : ∀ {kvs : List (κ × D)} {vs : List V}, RDs K W (kvs.map Prod.snd) vs → RK K W kvs ((kvs.map Prod.fst).zip vs)
  | [], _, h => by cases h; trivial
  | p :: kvs, _, h => by
    obtain ⟨v, r, rfl, h1, h2⟩ := h
    exact ⟨rfl, h1, RK.of h2⟩
theorem RK.back : ∀ {kvs : List (κ × D)} {cvs : List (κ × V)}, RK K W kvs cvs → cvs = (kvs.map Prod.fst).zip (cvs.map (·.2)) ∧ RDs K W (kvs.map Prod.snd) (cvs.map (·.2))
  | [], [], _ => ⟨rfl, rfl⟩
  | [], _ :: _, h => h.elim
  | _ :: _, [], h => h.elim
  | p :: kvs, q :: cvs, ⟨h1, h2, h3⟩ => by
    obtain ⟨e1, e2⟩ := h3.back
    refine ⟨?_, _, _, rfl, h2, e2⟩
    rw [List.map_cons, List.map_cons, List.zip_cons_cons, ← e1, h1]
theorem RK.len : ∀ {kvs : List (κ × D)} {cvs : List (κ × V)}, RK K W kvs cvs → kvs.length = cvs.length
  | [], [], _ => rfl
  | [], _ :: _, h => h.elim
  | _ :: _, [], h => h.elim
  | p :: kvs, q :: cvs, ⟨_, _, h3⟩ => by rw [List.length_cons, List.length_cons, h3.len]
theorem RK.mono (e : Same W W') : ∀ {kvs : List (κ × D)} {cvs : List (κ × V)}, RK K W kvs cvs → RK K W' kvs cvs
  | [], [], _ => trivial
  | [], _ :: _, h => h.elim
  | _ :: _, [], h => h.elim
  | p :: kvs, q :: cvs, ⟨h1, h2, h3⟩ => ⟨h1, RD.mono e h2, h3.mono e⟩
variable [DecidableEq κ]
theorem RK.val : ∀ {kvs : List (κ × D)} {cvs : List (κ × V)} (k : κ), RK K W kvs cvs → (valG kvs k = none ∧ valV cvs k = none) ∨ ∃ d v, valG kvs k = some d ∧ valV cvs k = some v ∧ RD K W d v
  | [], [], k, _ => .inl ⟨rfl, rfl⟩
  | [], _ :: _, _, h => h.elim
  | _ :: _, [], _, h => h.elim
  | p :: kvs, q :: cvs, k, ⟨h1, h2, h3⟩ => by
    by_cases e : p.1 = k
    · refine .inr ⟨p.2, q.2, ?_, valV_pos (h1 ▸ e), h2⟩
      unfold valG
      rw [List.find?_cons, decide_eq_true e]; rfl
    · have e' : ¬ q.1 = k := h1 ▸ e
      rw [valV_neg e', show valG (p :: kvs) k = valG kvs k from by unfold valG; rw [List.find?_cons, decide_eq_false e]]
      exact h3.val k
theorem RK.any : ∀ {kvs : List (κ × D)} {cvs : List (κ × V)} (k : κ), RK K W kvs cvs → (kvs.any fun kv => decide (kv.1 = k)) = cvs.any fun kv => decide (kv.1 = k)
  | [], [], k, _ => rfl
  | [], _ :: _, _, h => h.elim
  | _ :: _, [], _, h => h.elim
  | p :: kvs, q :: cvs, k, ⟨h1, h2, h3⟩ => by rw [List.any_cons, List.any_cons, h3.any k, h1]
theorem RK.map {k : κ} {d : D} {v : V} (r : RD K W d v) : ∀ {kvs : List (κ × D)} {cvs : List (κ × V)}, RK K W kvs cvs → RK K W (kvs.map fun kv => if kv.1 = k then (kv.1, d) else kv) (cvs.map fun kv => if kv.1 = k then (kv.1, v) else kv)
  | [], [], _ => trivial
  | [], _ :: _, h => h.elim
  | _ :: _, [], h => h.elim
  | p :: kvs, q :: cvs, ⟨h1, h2, h3⟩ => by
    rw [List.map_cons, List.map_cons]
    by_cases e : p.1 = k
    · rw [if_pos e, if_pos (h1 ▸ e)]; exact ⟨h1, r, h3.map r⟩
    · rw [if_neg e, if_neg (h1 ▸ e)]; exact ⟨h1, h2, h3.map r⟩
theorem RK.snoc {p : κ × D} {q : κ × V} (h1 : p.1 = q.1) (h2 : RD K W p.2 q.2) : ∀ {kvs : List (κ × D)} {cvs : List (κ × V)}, RK K W kvs cvs → RK K W (kvs ++ [p]) (cvs ++ [q])
  | [], [], _ => ⟨h1, h2, trivial⟩
  | [], _ :: _, h => h.elim
  | _ :: _, [], h => h.elim
  | _ :: kvs, _ :: cvs, ⟨a, b, c⟩ => ⟨a, b, RK.snoc h1 h2 c⟩
theorem RK.put {k : κ} {d : D} {v : V} (r : RD K W d v) {kvs : List (κ × D)} {cvs : List (κ × V)} (h : RK K W kvs cvs) : RK K W (putG kvs k d) (L2.putK cvs k v) := by
  unfold putG L2.putK
  rw [h.any k]
  split
  · exact h.map r
  · exact RK.snoc rfl r h
theorem putG_keys {α : Type} (kvs : List (κ × α)) (k : κ) (a : α) : (putG kvs k a).map Prod.fst = if k ∈ kvs.map Prod.fst then kvs.map Prod.fst else kvs.map Prod.fst ++ [k] := by
  have e : (kvs.any fun kv => decide (kv.1 = k)) = decide (k ∈ kvs.map Prod.fst) := by
    rw [Bool.eq_iff_iff, List.any_eq_true, decide_eq_true_iff, List.mem_map]
    constructor
    · rintro ⟨p, h1, h2⟩; exact ⟨p, h1, of_decide_eq_true h2⟩
    · rintro ⟨p, h1, h2⟩; exact ⟨p, h1, decide_eq_true h2⟩
  unfold putG
  rw [e]
  by_cases h : k ∈ kvs.map Prod.fst
  · rw [if_pos h, if_pos (decide_eq_true h), List.map_map]
    refine List.map_congr_left fun p _ => ?_
    show (if p.1 = k then (p.1, a) else p).1 = p.1
    split <;> rfl
  · rw [if_neg h, if_neg (by simpa using h), List.map_append]; rfl
theorem putG_len {α : Type} (kvs : List (κ × α)) (k : κ) (a : α) : (putG kvs k a).length ≤ kvs.length + 1 := by
  have := congrArg List.length (putG_keys kvs k a)
  rw [List.length_map] at this
  rw [this]
  split <;> simp
end
section
variable {B : Base} {K : PySem.W.Frag} {σ : AEnv} {M : List MO} {ta tb te to ti : TE} {x y : AV} {Φ : AV → List MO → Prop}
theorem ras_of_ds {W : Hp} {μ : List Addr} : ∀ {l : List D} {vs : List V}, RDs K W l vs → RAs K W μ (l.map AV.d) vs
  | [], _, h => h
  | d :: l, _, ⟨v, r, e1, h, t⟩ => ⟨v, r, e1, h, ras_of_ds t⟩
theorem dM_at {W H : Hp} {μ : List Addr} {k : Nat} {a : Addr} {kvs : KD} (s : Sim K W μ M H) (ha : μ[k]? = some a) (hm : M[k]? = some (dM kvs)) : ∃ cvs, H a = some (.dT cvs) ∧ RK K W kvs cvs := by
  obtain ⟨vs, h1, h2, h3⟩ := s.ob k a _ ha hm
  rw [show (kvs.map fun p => AV.d p.2) = (kvs.map Prod.snd).map AV.d from by rw [List.map_map]; rfl] at h3
  exact ⟨_, h1, RK.of h3.of_ds⟩
theorem dM_ok {W H : Hp} {μ : List Addr} {a : Addr} {kvs : KD} {cvs : List (List Key × V)} (h : H a = some (.dT cvs)) (r : RK K W kvs cvs) : OR K W μ H (dM kvs) a := by
  obtain ⟨e1, e2⟩ := r.back
  refine ⟨cvs.map (·.2), by rw [← e1]; exact h, by rw [List.length_map, List.length_map], ?_⟩
  rw [show (kvs.map fun p => AV.d p.2) = (kvs.map Prod.snd).map AV.d from by rw [List.map_map]; rfl]
  exact ras_of_ds e2
theorem dD_at {W : Hp} {kvs : KD} {v : V} (h : RD K W (dD kvs) v) : ∃ a od cvs, v = .ref a ∧ W a = some (.frz od (.dT cvs)) ∧ RK K W kvs cvs := by
  obtain ⟨a, vs, od, e, h1, _, h3⟩ := h
  exact ⟨a, od, _, e, h1, RK.of h3⟩
/-- k in d -/
theorem ar_inM {neg : Bool} {k : Nat} {kvs : KD} {ky : List Key} (hm : M[k]? = some (dM kvs)) (q : Φ (.d (.bl (if neg then !(valG kvs ky).isSome else (valG kvs ky).isSome))) M) : AR B K (rInD neg) (.d (.key ky)) (.m k) M Φ := fun W μ H u w o s hu hw Q qq => by
  obtain ⟨b, rfl, hb⟩ := hu
  obtain ⟨a, ha, rfl⟩ := hw
  obtain ⟨cvs, h1, h2⟩ := dM_at s ha hm
  refine ⟨a, valV cvs ky, rfl, DGet.t h1 (s.sub _ _ hb), ?_⟩
  have e : (valV cvs ky).isSome = (valG kvs ky).isSome := by
    rcases h2.val ky with ⟨e1, e2⟩ | ⟨d, v, e1, e2, _⟩ <;> rw [e1, e2] <;> rfl
  rw [e]
  exact qq _ _ _ _ _ _ q (.refl o s) rfl
theorem ar_inF {neg : Bool} {kvs : KD} {ky : List Key} (q : Φ (.d (.bl (if neg then !(valG kvs ky).isSome else (valG kvs ky).isSome))) M) : AR B K (rInD neg) (.d (.key ky)) (.d (dD kvs)) M Φ := fun W μ H u w o s hu hw Q qq => by
  obtain ⟨b, rfl, hb⟩ := hu
  obtain ⟨a, od, cvs, rfl, h1, h2⟩ := dD_at hw
  refine ⟨a, valV cvs ky, rfl, .inr ⟨cvs, ky, b, .inr ⟨od, s.sub _ _ h1⟩, rfl, s.sub _ _ hb, rfl⟩, ?_⟩
  have e : (valV cvs ky).isSome = (valG kvs ky).isSome := by
    rcases h2.val ky with ⟨e1, e2⟩ | ⟨d, v, e1, e2, _⟩ <;> rw [e1, e2] <;> rfl
  rw [e]
  exact qq _ _ _ _ _ _ q (.refl o s) rfl
theorem ar_getF {kvs : KD} {ky : List Key} {d : D} (hd : valG kvs ky = some d) (q : Φ (.d d) M) : AR B K rIxD (.d (dD kvs)) (.d (.key ky)) M Φ := fun W μ H u w o s hu hw Q qq => by
  obtain ⟨b, rfl, hb⟩ := hw
  obtain ⟨a, od, cvs, rfl, h1, h2⟩ := dD_at hu
  rcases h2.val ky with ⟨e1, e2⟩ | ⟨d', v, e1, e2, r⟩
  · rw [hd] at e1; cases e1
  · rw [hd] at e1; cases e1
    exact ⟨a, v, rfl, .inr ⟨cvs, ky, b, .inr ⟨od, s.sub _ _ h1⟩, rfl, s.sub _ _ hb, e2.symm⟩, qq _ _ _ _ _ _ q (.refl o s) r⟩
/-- d[k] = x -/
theorem ag_put {d : D} {Φ : AEnv → List MO → Prop} (h : AE B K to σ M fun z M1 => AE B K ti σ M1 fun i M2 => ∃ k kvs ky, z = .m k ∧ i = .d (.key ky) ∧ M2[k]? = some (dM kvs) ∧ kvs.length < sizeLine ∧ Φ σ (M2.set k (dM (putG kvs ky d)))) : AG B K (gSub to ti rSetD) (.d d) σ M Φ := fun W μ H τ v o s e r Q q =>
  h W μ H τ o s e _ fun y M1 W1 μ1 H1 w p f1 r1 => p W1 μ1 H1 τ f1.ok f1.sim (f1.re e) _ fun i M2 W2 μ2 H2 u ⟨k, kvs, ky, e1, e2, e3, e4, p2⟩ f2 r2 => by
    subst e1; subst e2
    obtain ⟨a, h1, rfl⟩ := f2.ra r1
    obtain ⟨b, rfl, hb⟩ := r2
    obtain ⟨cvs, h3, h4⟩ := dM_at f2.sim h1 e3
    have r3 : RD K W2 d v := (f1.trans f2).ra r
    refine ⟨a, _, rfl, DPut.t h3 (f2.sim.sub _ _ hb) (by rw [← h4.len]; exact e4), ?_⟩
    have f3 := go_set (mo := dM (putG kvs ky d)) (u := .dT (L2.putK cvs ky v)) f2.ok f2.sim h1 (dM_ok upd_same (h4.put r3))
    exact q _ _ _ _ _ _ p2 ((f1.trans f2).trans f3) (((f1.trans f2).trans f3).re e)
/-- {} -/
theorem ae_newD (q : Φ (.m M.length) (M ++ [dM []])) : AE B K tDNewT σ M Φ := fun W μ H τ o s e Q qq p hp => by
  have g := go_mut (mo := dM []) (u := .dT []) o s hp ⟨[], upd_same, rfl, rfl⟩
  refine qq _ _ _ _ _ _ q g ⟨p, ?_, rfl⟩
  rw [← s.len, List.getElem?_append_right (Nat.le_refl _), Nat.sub_self]; rfl
end
end Al
namespace Dt
open PySem PySem.Spec PyProof.Rows L2
/-- the pair of ints that a value tells -/
def pairOf (H : Hp) : V → Int × Int
  | .ref b => match H b with | some (.tup [.int i, .int j]) => (i, j) | _ => (0, 0)
  | _ => (0, 0)
def key2 (p : Int × Int) : List Key := [.inl p.1, .inl p.2]
theorem pairOf_key {H : Hp} {b : Addr} {p : Int × Int} (h : H b = some (.tup ((key2 p).map kV))) : pairOf H (.ref b) = p := by
  have h : H b = some (.tup [.int p.1, .int p.2]) := h
  show (match H b with | some (.tup [.int i, .int j]) => (i, j) | _ => (0, 0)) = p
  rw [h]
def rSortedDT : List V → Hp → VK → Prop := fun xs H Q => ∃ (d : Addr) (kvs : List (List Key × V)) (ps : List (Int × Int)), xs = [.ref d] ∧ Rd H d (.dT kvs) ∧ kvs.map Prod.fst = ps.map key2 ∧
  ∀ (bs : List Addr) ys p, IsKeys H kvs bs → SrtO.Srtd (ltP (pairOf H)) ys → SrtO.Stb (ltP (pairOf H)) ys (bs.map V.ref) → H p = none → Q (.ref p) (upd H p (.lst ys))
section
variable {X : Cx}
theorem cr_sortedDT (hc : X.calm = true) : CallR X (.builtin "sorted") rSortedDT := by
  intro pins s σ H xs us Q I r h
  obtain ⟨d, kvs, ps, rfl, hd, hps, q⟩ := h
  obtain ⟨u, rfl, rx⟩ := r.one
  cases rx
  obtain ⟨z, hs, ks, pr, o, es, ep, ho, hx, hdt, he, hn⟩ := (show ObjOk X.prog X.w H s.heap d (.dT kvs) from hd.ok I.hok)
  have l1 : es.size = ks.length := size_of_entries he
  have l2 : kvs.length = ks.length := Paired.length pr
  refine Calls.call_function_entry kind_sorted plain_sorted entry_sorted (args_sorted1 _) ?_
  unfold Builtin.«sorted»
  refine wpAny_bind (m := checkCount "sorted" 1 1 _) (wpAny_pure ?_)
  refine wpAny_bind (PySem.W.kdu_collect (A := X.A.in1) (kdl_raw hs hx hdt) (I.ok.hd hc) ho (by omega) fun h' tk acc kp it => ?_)
  have ea : acc.toList = ks.map fun x => Value.ref x.2.1 := by
    have hl : acc.toList.length = ks.length := by rw [Array.length_toList, it.1]; exact l1
    apply List.ext_getElem?
    intro j
    rw [List.getElem?_map]
    cases hj : acc.toList[j]? with
    | none =>
      have h1 := List.getElem?_eq_none_iff.mp hj
      rw [List.getElem?_eq_none (by omega)]
      all_goals rfl
    | some v =>
      obtain ⟨en, hen, hv⟩ := it.2 j v (by rw [← Array.getElem?_toList]; exact hj)
      have qe := entry_at he j
      rw [hen] at qe
      cases hb : ks[j]? with
      | none =>
        rw [hb] at qe
        exact nomatch (show some en = none from qe)
      | some b =>
        rw [hb] at qe
        have e2 : en = entryOfKey (tupleKind (mixKind X.prog X.w)) b := Option.some.inj qe
        rw [hv, e2]
        all_goals rfl
  have eb : acc.toList = (ks.map fun x => x.2.1).map Value.ref := by rw [ea, List.map_map]; all_goals rfl
  have I1 : Inv X pins σ H { s with heap := h', toks := tk } := I.kept kp
  rw [eb]
  have hz : ((ks.map fun x => x.2.1).map Value.ref).length ≤ sizeLine := by rw [List.length_map, List.length_map]; omega
  have keys := isKeys_of pr
  generalize hbs : (ks.map fun x => x.2.1) = bs at hz keys ⊢
  -- each of them is a pair of ints
  have each : ∀ b ∈ bs, ∃ p : Int × Int, H b = some (.tup ((key2 p).map kV)) := by
    have : ∀ {kvs : List (List Key × V)} {bs : List Addr} {ps : List (Int × Int)}, IsKeys H kvs bs → kvs.map Prod.fst = ps.map key2 → ∀ b ∈ bs, ∃ p : Int × Int, H b = some (.tup ((key2 p).map kV)) := by
      intro kvs bs ps k
      unfold IsKeys at k
      induction k generalizing ps with
      | nil => intro _ b hb; cases hb
      | @cons a b as bs' h1 t ih =>
        intro e c hc
        cases ps with
        | nil => cases e
        | cons p ps =>
          rw [List.map_cons, List.map_cons] at e
          obtain ⟨e1, e2⟩ := List.cons.inj e
          rcases List.mem_cons.mp hc with rfl | hc
          · exact ⟨p, by rw [← e1]; exact h1⟩
          · exact ih e2 c hc
    exact this keys hps
  refine wpAny_bind (wpAny_newList ?_ hz)
  have hoL : (h'.push (seqObj "list" (bs.map Value.ref).toArray 0)).get? h'.objs.size = some (seqObj "list" (bs.map Value.ref).toArray 0) := Heap.get?_push_size _ rfl
  show wpAny _ _ _ _ _ { s with heap := h'.push (seqObj "list" (bs.map Value.ref).toArray 0), toks := tk }
  have isP : ∀ v ∈ bs.map Value.ref, Srt.IsPair h' v (pairOf H (backV v)).1 (pairOf H (backV v)).2 := fun v hv => by
    obtain ⟨b, hb, rfl⟩ := List.mem_map.mp hv
    obtain ⟨p, hp⟩ := each b hb
    rw [show backV (Value.ref b) = V.ref b from rfl, pairOf_key hp]
    obtain ⟨_, its2, r2, o2, ho2, hc2, n2, hd2⟩ := I1.hok _ _ hp
    obtain ⟨u1, u2, rfl, ri, rj⟩ := vals2 r2
    obtain ⟨t1, rfl⟩ := ri
    obtain ⟨t2, rfl⟩ := rj
    exact ⟨b, o2, t1, t2, n2, rfl, ho2, hc2, hd2⟩
  refine wpAny_bind (wpAny_holding (wpAny_call_entry slot_list_sort ⟨_, hoL, rfl⟩ entry_list_sort
    (SrtO.list_sort_ord (s := { s with heap := h'.push (seqObj "list" (bs.map Value.ref).toArray 0), toks := tk }) (ltv := fun v u => SrtO.lexB (pairOf H (backV v)) (pairOf H (backV u))) (SrtO.swo_lex _) hoL hz (fun h2 => SrtO.pairs_sortableO (by omega) (fun v hv => (isP v hv).keeps fun b o e _ => Heap.get?_push_of_some _ e) fun o e => ?_)
      fun out g1 g2 => ⟨_, rfl, ?_⟩) (args_list_sort _)))
  · have e' : some o = some (seqObj "list" (bs.map Value.ref).toArray 0) := e.symm.trans hoL
    cases e'
    intro c
    exact absurd (Value.type.inj c) (by decide)
  · obtain ⟨e', he'⟩ := PyProof.Rows.sortedHeap_at (vs := bs.map Value.ref) (out := out.toArray) hoL
    have h3 : ∀ u ∈ out, ∃ a, u = Value.ref a := fun u hu => by
      obtain ⟨b, _, rfl⟩ := List.mem_map.mp (g2.perm.mem_iff.mp hu)
      exact ⟨b, rfl⟩
    have hb : SrtO.Stb (ltP (pairOf H)) (out.map backV) (bs.map V.ref) := by
      have := SrtO.Stb.map (ltP_swo (pairOf H)) backV g2
      rwa [List.map_map] at this
    refine wpAny_pure ⟨_, rfl, .ref h'.objs.size, upd H h'.objs.size (.lst (out.map backV)), I1.laid (t' := tk) (fun b u e => ?_) (Nat.le_refl _) ⟨?_, out, e', vals_back h3, by rw [← he']⟩, rfl, q bs _ _ keys (SrtO.srtd_map g1) hb (I1.hok.fresh (Nat.le_refl _))⟩
    · have hb : b < h'.objs.size := Heap.lt_size e
      rw [PyProof.Rows.sortedHeap_old (Nat.ne_of_lt hb) (by rw [size_push']; exact Nat.lt_succ_of_lt hb)]
      exact Heap.get?_push_of_some _ e
    · rw [hb.len, List.length_map]
      rw [List.length_map] at hz
      exact hz
end
end Dt
namespace Al
open PySem PyProof.Rows L2 Gx Dt
variable [Al.TabList]
section
variable {B : Base} {K : PySem.W.Frag} {W W1 H : Hp} {μ μ1 : List Addr} {M : List MO}
/-- the youngest object is locked: it joins what never changes -/
theorem go_lock {n k : Nat} {a : Addr} {u u' : HO} (g : Go B K W1 μ1 W μ M H) (hn : μ1.length ≤ n) (h1 : B.μ0.length ≤ n) (hb : ∀ o ∈ M.take n, o.below n = true) (hk : n ≤ k) (ha : μ[k]? = some a) (hu : H a = some u) : Go B K W1 μ1 (upd W a u') (μ.take n) (M.take n) (upd H a u') := by
  have g2 := go_cut g hn h1 hb
  have wa : W a = none := g.sim.out a (List.mem_of_getElem? ha)
  have pu := g.sim.plain (List.mem_of_getElem? ha) hu
  have na : a ∉ μ.take n := fun h => by
    obtain ⟨j, hj, e⟩ := List.getElem_of_mem h
    obtain ⟨lk, ek⟩ := List.getElem?_eq_some_iff.mp ha
    rw [List.getElem_take] at e
    have hjn : j < n := by rw [List.length_take] at hj; omega
    have : j = k := (List.getElem_inj g.sim.nd).mp (e.trans ek.symm)
    omega
  have n0 : B.H0 a = none := by
    obtain ⟨ext, e1, e2⟩ := g.ok.pre
    refine e2 a ?_
    rw [e1, List.getElem?_append_right (by omega)] at ha
    exact List.mem_of_getElem? ha
  have keep : ∀ b o, b ≠ a → H b = some o → upd H a u' b = some o := fun b o hb h => by rw [upd_ne hb]; exact h
  refine ⟨⟨g2.ok.wsub.trans (same_upd wa), fun b o h => ?_, fun b o h hx ht => ?_, g2.ok.pre, fun b h => ?_⟩, ⟨fun b o h => ?_, g2.sim.nd, g2.sim.len, fun b h => ?_, fun j b o q1 q2 => ?_, g2.sim.tab.keep fun b o h hp => keep b o (fun z => by rw [z, hu] at h; cases h; exact hp pu) h, fun p hp => ?_⟩, g2.wext.trans (same_upd wa), g2.mext⟩
  · by_cases e : b = a
    · subst e; exact .inr (.inl n0)
    · rw [upd_ne e] at h; exact g2.ok.wnew b o h
  · exact keep b o (fun z => by rw [z, n0] at h; cases h) (g2.ok.fr b o h hx ht)
  · by_cases e : b = a
    · subst e; exact n0
    · rw [upd_ne e] at h; exact g2.ok.live b h
  · by_cases e : b = a
    · subst e; rw [upd_same] at h ⊢; exact h
    · rw [upd_ne e] at h; exact keep b o e (g2.sim.sub b o h)
  · have : b ≠ a := fun e => na (e ▸ h)
    rw [upd_ne this]; exact g2.sim.out b h
  · have hba : b ≠ a := fun e => na (e ▸ List.mem_of_getElem? q1)
    have q := (g2.sim.ob j b o q1 q2).mono (μ' := []) (same_upd (o := u') wa) (H' := upd H a u') (fun w e => keep b w hba e)
    rwa [List.append_nil] at q
  · rw [upd_ne (fun z => by
      obtain ⟨ps, h1, _⟩ := g2.sim.tab p hp
      rw [z, hu] at h1
      cases h1
      exact pu.1 _ rfl)]
    exact g2.sim.tw p hp
/-- some tuples that stand are told of -/
theorem go_tups : ∀ {bs : List Addr} {kks : List (List Key)} {W : Hp}, Ok B W μ H → Sim K W μ M H → Paired (fun (ks : List Key) b => H b = some (.tup (ks.map kV))) kks bs → ∃ W', Go B K W μ W' μ M H ∧ RDs K W' (kks.map D.key) (bs.map V.ref)
  | _, _, W, o, s, .nil => ⟨W, .refl o s, rfl⟩
  | _, _, W, o, s, .cons h t => by
    have g := go_tup o s h
    obtain ⟨W', g', r⟩ := go_tups g.ok g.sim t
    exact ⟨W', g.trans g', _, _, rfl, ⟨_, rfl, g'.wext _ _ upd_same⟩, r⟩
end
section
variable {B : Base} {K : PySem.W.Frag} {σ : AEnv} {M : List MO} {ta : TA} {tb te to ti : TE} {x y : AV} {Φ : AV → List MO → Prop}
theorem ae_lockV (h : AE B K te σ M fun x M1 => ∃ M0 kvs, x = .m M0.length ∧ M1 = M0 ++ [dM kvs] ∧ M.length ≤ M0.length ∧ (∀ o ∈ M0, o.below M0.length = true) ∧ Φ (.d (dD kvs)) M0) : AE B K (tLockV te) σ M Φ := fun W μ H τ o s e Q q =>
  h W μ H τ o s e _ fun x M1 W1 μ1 H1 v ⟨M0, kvs, e1, e2, hl, hb, p⟩ f1 r1 => by
    subst e1; subst e2
    obtain ⟨a, ha, rfl⟩ := r1
    obtain ⟨cvs, h1, h2⟩ := dM_at f1.sim ha (by rw [List.getElem?_append_right (Nat.le_refl _), Nat.sub_self]; rfl)
    refine ⟨a, _, rfl, h1, trivial, fun od => ?_⟩
    have hμ : μ.length ≤ M0.length := by rw [s.len]; exact hl
    have hB : B.μ0.length ≤ M0.length := by
      obtain ⟨ext, e1, _⟩ := o.pre
      have := congrArg List.length e1
      rw [List.length_append] at this
      omega
    have tk : (M0 ++ [dM kvs]).take M0.length = M0 := List.take_left
    have g := go_lock (u' := .frz od (.dT cvs)) f1 hμ hB (by rw [tk]; exact hb) (Nat.le_refl _) ha h1
    rw [tk] at g
    have wa : W1 a = none := f1.sim.out a (List.mem_of_getElem? ha)
    obtain ⟨e3, e4⟩ := (h2.mono (same_upd (o := .frz od (.dT cvs)) wa)).back
    exact q _ _ _ _ _ _ p g ⟨a, cvs.map Prod.snd, od, rfl, by rw [← e3]; exact upd_same, by rw [List.length_map, List.length_map], e4⟩
theorem RK.get {κ : Type} {W : Hp} : ∀ {kvs : List (κ × D)} {cvs : List (κ × V)} {i : Nat} {p : κ × D}, RK K W kvs cvs → kvs[i]? = some p → ∃ v, cvs[i]? = some (p.1, v) ∧ RD K W p.2 v
  | [], _, i, p, _, h => by rw [List.getElem?_nil] at h; cases h
  | _ :: _, [], _, _, h, _ => h.elim
  | a :: kvs, b :: cvs, 0, p, ⟨h1, h2, _⟩, h => by cases h; exact ⟨b.2, by rw [h1]; rfl, h2⟩
  | a :: kvs, b :: cvs, i + 1, p, ⟨_, _, h3⟩, h => RK.get (i := i) h3 h
/-- for k in d, d locked -/
theorem ai_keysT {Φ : List D → List MO → Prop} (h : AE B K te σ M fun x M1 => ∃ kvs : KD, x = .d (dD kvs) ∧ Φ (kvs.map fun p => .key p.1) M1) : AI B K (iKeysT te) σ M Φ := fun W μ H τ o s e R q =>
  h W μ H τ o s e _ fun x M1 W1 μ1 H1 v ⟨kvs, e1, p⟩ f1 r1 => by
    subst e1
    obtain ⟨a, od, cvs, rfl, h1, h2⟩ := dD_at r1
    refine ⟨a, od, cvs, rfl, f1.sim.sub _ _ h1, q _ _ _ _ _ _ p f1 fun W2 H2 M2 e2 s1 sm _ => ?_⟩
    have hH : H2 a = some (.frz od (.dT cvs)) := sm.sub _ _ (s1 _ _ h1)
    refine ⟨fun i d hd => ?_, ⟨hH, by rw [List.length_map, h2.len]; exact Nat.le_refl _⟩⟩
    rw [List.getElem?_map] at hd
    obtain ⟨pp, hp, rfl⟩ := Option.map_eq_some_iff.mp hd
    obtain ⟨v, hv, _⟩ := h2.get hp
    refine ⟨⟨hH, (List.getElem?_eq_some_iff.mp hv).1⟩, fun x H' ⟨e, k, v', b, hk, ex, hb⟩ => .inr (.inr (.inl ⟨e, b, _, hb, ?_⟩))⟩
    rw [hv] at hk
    cases hk
    exact ⟨b, ex, upd_same⟩
/-- d as data, or the k-th object -/
inductive DV (M : List MO) : AV → KD → Prop
  | d (kvs : KD) : DV M (.d (dD kvs)) kvs
  | mm {k : Nat} {kvs : KD} (h : M[k]? = some (dM kvs)) : DV M (.m k) kvs
theorem DV.run {W H : Hp} {μ : List Addr} {kvs : KD} {v : V} (h : DV M x kvs) (s : Sim K W μ M H) (r : RA K W μ x v) : ∃ a cvs, v = .ref a ∧ Rd H a (.dT cvs) ∧ RK K W kvs cvs := by
  cases h with
  | d =>
    obtain ⟨a, od, cvs, rfl, h1, h2⟩ := dD_at r
    exact ⟨a, cvs, rfl, .inr ⟨od, s.sub _ _ h1⟩, h2⟩
  | mm hm =>
    obtain ⟨a, ha, rfl⟩ := r
    obtain ⟨cvs, h1, h2⟩ := dM_at s ha hm
    exact ⟨a, cvs, rfl, .inl h1, h2⟩
theorem isKeys_ks {W : Hp} : ∀ {kvs : KD} {cvs : List (List Key × V)} {bs : List Addr} {H : Hp}, RK K W kvs cvs → IsKeys H cvs bs → Paired (fun (ks : List Key) b => H b = some (.tup (ks.map kV))) (kvs.map Prod.fst) bs
  | [], [], _, _, _, k => by cases k; exact .nil
  | [], _ :: _, _, _, h, _ => h.elim
  | _ :: _, [], _, _, h, _ => h.elim
  | p :: kvs, q :: cvs, _, _, ⟨h1, _, h3⟩, k => by
    cases k with
    | cons a t => exact .cons (by rw [h1]; exact a) (isKeys_ks h3 t)
end
end Al
namespace Al
open PySem PyProof.Rows L2 Gx Dt
variable [Al.TabList]
def keyD : Key → D | .inl i => .int i | .inr x => .str x
abbrev keyA (ks : List Key) : List AV := ks.map fun k => .d (keyD k)
theorem ras_keys {K : PySem.W.Frag} {W : Hp} {μ : List Addr} : ∀ {ks : List Key} {vs : List V}, RAs K W μ (keyA ks) vs → vs = ks.map kV
  | [], _, h => by cases h; rfl
  | k :: ks, _, ⟨v, r, e1, h, t⟩ => by
    subst e1
    rw [ras_keys t, List.map_cons]
    cases k <;> (cases h; rfl)
theorem keys_ras {K : PySem.W.Frag} {W : Hp} {μ : List Addr} : ∀ ks : List Key, RAs K W μ (keyA ks) (ks.map kV)
  | [] => rfl
  | k :: ks => ⟨kV k, _, rfl, by cases k <;> rfl, keys_ras ks⟩
section
variable {B : Base} {K : PySem.W.Frag} {σ : AEnv} {M : List MO} {ta : TA} {tb te to ti tk tv : TE} {x y : AV} {Φ : AV → List MO → Prop}
/-- a tuple that may be a key -/
theorem ae_tupK (h : AA B K ta σ M fun xs M1 => ∃ ks : List Key, xs = keyA ks ∧ ks.length ≤ sizeLine ∧ Φ (.d (.key ks)) M1) : AE B K (tTup ta) σ M Φ := fun W μ H τ o s e Q q =>
  h W μ H τ o s e _ fun xs M1 W1 μ1 H1 vs ⟨ks, e1, hz, p⟩ f1 r1 => by
    subst e1
    have ev := ras_keys r1
    refine ⟨by rw [ev, List.length_map]; exact hz, fun a ha => ?_⟩
    have g := go_new (u := .tup vs) f1.ok f1.sim ha
    exact q _ _ _ _ _ _ p (f1.trans g) ⟨a, rfl, by rw [← ev]; exact upd_same⟩
theorem ag_tupK {n : Nat} {gs : TGs} {ks : List Key} {Φ : AEnv → List MO → Prop} (hn : ks.length = n) (h : AGs B K gs (keyA ks) σ M Φ) : AG B K (gTup K n gs) (.d (.key ks)) σ M Φ := fun W μ H τ v o s e r Q q => by
  obtain ⟨a, rfl, h1⟩ := r
  exact ⟨a, ks.map kV, rfl, .inl (.inl (s.sub _ _ h1)), by rw [List.length_map]; exact hn, h W μ H τ _ o s e (keys_ras ks) Q q⟩
theorem ur_ixK {ks : List Key} {i : Int} {k : Key} (ha : atI ks i = some k) (q : Φ (.d (keyD k)) M) : AR B K (rIx K) (.d (.key ks)) (.d (.int i)) M Φ := fun W μ H u w o s hu hw Q qq => by
  obtain ⟨a, rfl, h1⟩ := hu
  cases hw
  have h2 : atI (ks.map kV) i = some (kV k) := by
    unfold atI at ha ⊢
    rw [List.length_map]
    cases e : ixN ks.length i with
    | none => rw [e] at ha; cases ha
    | some j =>
      rw [e] at ha
      have ha : ks[j]? = some k := ha
      show (ks.map kV)[j]? = _
      rw [List.getElem?_map, ha]; rfl
  exact .inr (.inl ⟨a, ks.map kV, i, kV k, rfl, rfl, .inl (.inl (s.sub _ _ h1)), h2, qq _ _ _ _ _ _ q (.refl o s) (by cases k <;> rfl)⟩)
abbrev pk (p : Int × Int) : D := .key (key2 p)
/-- sorted by the first, then by the second -/
def SortedP (ps : List (Int × Int)) : Prop := ps.Pairwise fun p q => SrtO.lexB q p = false
/-- the values of pairs, and back -/
theorem pairs_of {W H : Hp} (e : Same W H) : ∀ {ps : List (Int × Int)} {vs : List V}, RDs K W (ps.map pk) vs → vs.map (pairOf H) = ps ∧ (∀ x ∈ vs, ∃ t, x = V.ref t ∧ H t = some (.tup [.int (pairOf H x).1, .int (pairOf H x).2])) ∧ ∀ x ∈ vs, RD K W (pk (pairOf H x)) x
  | [], _, h => by cases h; exact ⟨rfl, (fun _ h => nomatch h), (fun _ h => nomatch h)⟩
  | p :: ps, _, ⟨v, r, e1, h, t⟩ => by
    subst e1
    obtain ⟨a, rfl, h1⟩ := h
    obtain ⟨i1, i2, i3⟩ := pairs_of e t
    have hp := pairOf_key (e _ _ h1)
    refine ⟨by rw [List.map_cons, i1, hp], fun x hx => ?_, fun x hx => ?_⟩
    · rcases List.mem_cons.mp hx with rfl | hx
      · exact ⟨a, rfl, by rw [hp]; exact e _ _ h1⟩
      · exact i2 x hx
    · rcases List.mem_cons.mp hx with rfl | hx
      · rw [hp]; exact ⟨a, rfl, h1⟩
      · exact i3 x hx
theorem rds_pairs {W H : Hp} : ∀ {vs : List V}, (∀ x ∈ vs, RD K W (pk (pairOf H x)) x) → RDs K W ((vs.map (pairOf H)).map pk) vs
  | [], _ => rfl
  | v :: vs, h => ⟨v, vs, rfl, h v List.mem_cons_self, rds_pairs fun x hx => h x (List.mem_cons_of_mem _ hx)⟩
def uSortedP (K : PySem.W.Frag) : List V → Hp → VK → Prop := fun xs H Q => rSortedPO K xs H Q ∨ rSortedDT xs H Q
theorem k_sortedP (K : PySem.W.Frag) {X : Cx} (hc : X.calm = true) (hK : X.K = K := by rfl) : CallR X (.builtin "sorted") (uSortedP K) := hK ▸ CallR.or cr_sortedPO (cr_sortedDT hc)
theorem uc_sortedP {ps : List (Int × Int)} (h : SV M x (ps.map pk)) (k : ∀ ps' : List (Int × Int), ps'.Perm ps → SortedP ps' → Φ (.d (.lst (ps'.map pk))) M) : AC B K (uSortedP K) [x] M Φ := fun W μ H us o s r Q q => by
  obtain ⟨v, rfl, r'⟩ := ra_one r
  obtain ⟨a, vs, rfl, h1, h2⟩ := h.run s r'
  obtain ⟨e1, e2, e3⟩ := pairs_of s.sub h2
  refine .inl ⟨a, vs, pairOf H, rfl, h1, e2, fun ys p g1 g2 hp => ?_⟩
  have hys : ∀ x ∈ ys, RD K W (pk (pairOf H x)) x := fun x hx => e3 x (g2.perm.mem_iff.mp hx)
  have g := go_new (u := .lst ys) o s hp
  exact q _ _ _ _ _ _ (k (ys.map (pairOf H)) (by rw [← e1]; exact g2.perm.map _) (List.pairwise_map.mpr g1)) g ⟨p, ys, rfl, upd_same, (rds_pairs hys).mono g.wext⟩
end
end Al
namespace Al
open PySem PyProof.Rows L2 Gx Dt
variable [Al.TabList]
section
variable {B : Base} {K : PySem.W.Frag} {σ : AEnv} {M : List MO} {t : TA} {tb te to ti tk tv : TE} {x y : AV} {Φ : AV → List MO → Prop}
/-- {k: v} -/
theorem ae_disp1 (h : AE B K tk σ (M ++ [dM []]) fun y M1 => AE B K tv σ M1 fun z M2 => ∃ ky d, y = .d (.key ky) ∧ z = .d d ∧ M2 = M ++ [dM []] ∧ Φ (.m M.length) (M ++ [dM [(ky, d)]])) : AE B K (tDispT [(tk, tv)]) σ M Φ := fun W μ H τ o s e Q q D hD => by
  have g0 : Go B K W μ W (μ ++ [D]) (M ++ [dM []]) (upd H D (.dT [])) := go_mut (mo := dM []) o s hD ⟨[], upd_same, rfl, rfl⟩
  refine h W (μ ++ [D]) _ τ g0.ok g0.sim (g0.re e) _ fun y M1 W1 μ1 H1 v p1 f1 r1 => p1 W1 μ1 H1 τ f1.ok f1.sim ((g0.trans f1).re e) _ fun z M2 W2 μ2 H2 v2 ⟨ky, d, ey, ez, eM, p⟩ f2 r2 => ?_
  subst ey; subst ez; subst eM
  obtain ⟨b, rfl, hb⟩ := r1
  have f12 := f1.trans f2
  have hDk : μ2[M.length]? = some D := by
    obtain ⟨ext, e5⟩ := f12.mext
    rw [e5, List.append_assoc, ← s.len, List.getElem?_append_right (Nat.le_refl _), Nat.sub_self]; rfl
  obtain ⟨cvs, h1, h2⟩ := dM_at (kvs := []) f2.sim hDk (by rw [List.getElem?_append_right (Nat.le_refl _), Nat.sub_self]; rfl)
  obtain rfl : cvs = [] := by
    cases cvs with
    | nil => rfl
    | cons a b => exact h2.elim
  refine ⟨h1, [(ky, v2)], .cons ⟨b, rfl, f2.sim.sub _ _ (f2.wext _ _ hb), rfl⟩ .nil, by simp, ?_⟩
  have g5 := go_set (mo := dM [(ky, d)]) (u := .dT (mergeT [] [(ky, v2)])) f2.ok f2.sim hDk (dM_ok (cvs := [(ky, v2)]) upd_same ⟨rfl, r2, trivial⟩)
  have eM : (M ++ [dM []]).set M.length (dM [(ky, d)]) = M ++ [dM [(ky, d)]] := by
    rw [List.set_append_right _ _ (Nat.le_refl _), Nat.sub_self]; rfl
  rw [eM] at g5
  exact q _ _ _ _ _ _ p ((g0.trans f12).trans g5) ⟨D, hDk, rfl⟩
end
end Al
namespace Dt
open PySem PySem.Spec PyProof.Rows
end Dt
namespace Al
open PySem PyProof.Rows L2 Gx Dt
variable [Al.TabList]
section
variable {X : Cx}
theorem k_inD (hu : X.A.units + 64 < cLine) : OpR X (compareOp .In) (rInD false) := op_inD (by omega)
theorem k_notInD (hu : X.A.units + 64 < cLine) : OpR X (compareOp .NotIn) (rInD true) := op_notInD (by omega)
theorem k_ixD (hu : X.A.units + 64 < cLine) : IxR X rIxD := ix_dict (by omega)
theorem k_setD (hu : X.A.units + 64 < cLine) : PSet X rSetD := set_dict (by omega)
theorem pe_dispD {pos : Pos} {keys : List (Option Expr)} {values : List Expr} {trs : List (TE × TE)} (hu : X.A.units + 64 < cLine) (h : PPs X pos keys values trs) (hall : keys.all (·.isSome) = true) (hl : keys.length = values.length) (h0 : keys ≠ [])
    (h15 : keys.length ≤ 15) : PE X (.Dict keys values pos) (tDispT trs) := pe_dispT (by omega) h hall hl h0 h15
end
end Al
namespace Al
open PySem PySem.Spec PyProof.Rows L2 Gx Lm Cb NdefX
variable [Al.TabList]
def KwOkD (K : PySem.W.Frag) (fd : FuncData) (ps : List Str) (e : KwE) : Prop := KBn K fd ps e.1 e.2.1 (fun us ws => pick e.2.2 us [] [.none] ws) (fun vs zs => pick e.2.2 vs [] [.non] zs)
structure DefAtK (K : PySem.W.Frag) (mg : Str → Option Value) (x : Str) (st : Stmt) (ps : List Str) (cdv : Value) (kws : List KwE) : Prop where
  ex : ∃ (f : Addr) (oc : Value) (od : Option Addr) (kV doc pm : Value) (an : Option Addr) (ct : Value) (osl : Array (Option Value)),
    K.lookup f = some ⟨oc, od, .func (PySem.W.fnOf x x (defArgs st) (defBody st) (defScope st) .none kV doc pm an cdv ct), osl⟩ ∧ PySem.W.codeIn K cdv x = true ∧ mg x = some (.ref f) ∧ PySem.W.keepIn K (.ref f) = true ∧
    ∀ e ∈ kws, KwOkD K (PySem.W.fnOf x x (defArgs st) (defBody st) (defScope st) .none kV doc pm an cdv ct) ps e
structure FnAtK (P : Program) (w : World) (K : PySem.W.Frag) (mg : Str → Option Value) (base : Heap) (CX : CXT) (k : Nat) (x : Str) (ps : List Str) (asp : ASp) (kws : List KwE) : Prop where
  ex : ∃ f fd, FnOk P w K mg base CX k f fd ps (conc K asp) ∧ mg x = some (.ref f) ∧ PySem.W.keepIn K (.ref f) = true ∧ ∀ e ∈ kws, KwOkD K fd ps e
def tCallD (sp : Sp) (e : KwE) (E : XK) (t tk : TA) : TE := fun σ H Q => t σ H fun vs H1 => tk σ H1 fun zs H2 => vs.length = e.1 ∧ zs.length = e.2.1.length ∧ sp (pick e.2.2 vs [] [.non] zs) H2 Q E
section
variable {X : Cx} {CX : CXT} {k : Nat} {x : Str} {ps : List Str} {asp : ASp} {E : XK} {p pos : Pos} {a : Expr} {es : List Expr} {kws : List KwE} {kk : List Keyword} {t tk : TA}
theorem pe_fnP {K : PySem.W.Frag} (e : KwE) (G : FnAtK X.prog X.w K X.mg X.base CX k x ps asp kws) (he0 : e ∈ kws) (hr : Room k X.A) (hg : Gl X x) (hx : Passes CX X E) (ha : PA X (a :: es) t) (hkw : PK X kk tk)
    (hall : (backToKw pos (keywordEach kk X.env)).all (·.1.isSome) = true := by rfl) (hks : (backToKw pos (keywordEach kk X.env)).filterMap (·.1) = e.2.1 := by rfl) (hdb : (x == ("__debug__" : Str)) = false := by decide)
    (he : starEach (a :: es) X.env = (false, eval a X.env) :: starEach es X.env := by rfl)
    (hpl : ((backTo pos (starEach (a :: es) X.env)).any (·.1) || (backToKw pos (keywordEach kk X.env)).any (·.1.isNone)) = false := by rfl) (hK : X.K = K := by rfl) : PE X (.Call (.Name x p) (a :: es) kk pos) (tCallD (conc K asp) e E t tk) := by
  subst hK
  obtain ⟨f, fd, F, hm, hk, hw⟩ := G.ex
  exact pe_callN F hr hg hm hk (hw e he0) hx ha hkw hall hks hdb he hpl
theorem pe_fnP0 {K : PySem.W.Frag} (e : KwE) (G : FnAtK X.prog X.w K X.mg X.base CX k x ps asp kws) (he0 : e ∈ kws) (hr : Room k X.A) (hg : Gl X x) (hx : Passes CX X E) (hkw : PK X kk tk)
    (hall : (backToKw pos (keywordEach kk X.env)).all (·.1.isSome) = true := by rfl) (hks : (backToKw pos (keywordEach kk X.env)).filterMap (·.1) = e.2.1 := by rfl) (hdb : (x == ("__debug__" : Str)) = false := by decide)
    (hpl : ((backTo pos (starEach [] X.env)).any (·.1) || (backToKw pos (keywordEach kk X.env)).any (·.1.isNone)) = false := by rfl) (hK : X.K = K := by rfl) : PE X (.Call (.Name x p) [] kk pos) (tCallD (conc K asp) e E tNil tk) := by
  subst hK
  obtain ⟨f, fd, F, hm, hk, hw⟩ := G.ex
  refine ⟨fun pins s σ H Q I h => ?_⟩
  refine wpAny_Call_Name_kw (ld_glob I hg hm ?_ hdb)
  refine PySem.W.callWith_KW0 (h₀ := X.base) I.ok.mod.kin hk hall ?_ hpl
  refine thn (hkw.run pos pins s σ H _ I h) fun ws s2 ⟨zs, H2, I2, rz, l1, l2, q2⟩ => ⟨I2.kIn, ?_⟩
  rw [hks]
  exact run_fnN (us := []) (vs := []) F hr (hw e he0) hx I2 .nil rz l1 l2 q2
end
section
variable {P : Program} {w : World} {K : PySem.W.Frag} {mg : Str → Option Value} {base : Heap}
theorem fnatXK {k : Nat} {x : Str} {st : Stmt} {ps N : List Str} {asp : ASp} {kws : List KwE} {cdv : Value} (D : DefAtK K mg x st ps cdv kws) (S : FnScope N ps (defScope st)) (len : ∀ xs M Φ Ψ, asp xs M Φ Ψ → xs.length = ps.length)
    (hbody : ∀ (f : Addr) (A : Around) (outer : List Env) (s : Shared) (H : Hp) (E : XK), Room k (A.deeper (envOfC x (defScope st) s.heap.objs.size f cdv)) →
      ∃ t, PSs (cxOf (L2.CX P w) P w K mg base N x (defScope st) f cdv A outer s H E) (defBody st) t ∧ ∀ (B : Base) xs M Φ Ψ, B.μ0.length = M.length → asp xs M Φ Ψ → EFits B K (XT M.length Ψ) E → AS B K t (startA N xs) M (defEnds M.length Φ)) : FnAtK P w K mg base (L2.CX P w) (k + 1) x ps asp kws := by
  obtain ⟨f, oc, od, kV, doc, pm, an, ct, osl, lk, hcd, hm, kp, hk⟩ := D.ex
  refine ⟨f, _, fn_of lk hcd S (fun vs H Q E h => ?_) (fun A outer s H vs Q E hr h => ?_), hm, kp, hk⟩
  · obtain ⟨W, μ, M, xs, _, r, ha⟩ := h
    rw [← r.length]; exact len _ _ _ _ ha
  · obtain ⟨t, h1, h2⟩ := hbody f A outer s H E hr
    exact ⟨t, h1, conc_body (B0 := Unit) h h2⟩
theorem pick_rasD {W : Hp} {μ : List Addr} {xs ys : List AV} {vs zs : List V} (ix : List Nat) (r : RAs K W μ xs vs) (r2 : RAs K W μ ys zs) : RAs K W μ (pick ix xs [] [.d .non] ys) (pick ix vs [] [.non] zs) :=
  pick_ras ix (RAs.append (RAs.append (RAs.append r ras_nil) (ras_cons (x := .d .non) rfl ras_nil)) r2)
end
section
variable {B : Base} {K : PySem.W.Frag} {σ : AEnv} {M : List MO} {Φ : AV → List MO → Prop} {asp : ASp} {E : XK} {t tk : TA} {ta : TE} {e : KwE}
theorem ae_callD {Ψ : Exc → List MO → Prop} (mono : Mono asp) (qe : EFits B K Ψ E)
    (h : AA B K t σ M fun xs M1 => AA B K tk σ M1 fun ys M2 => xs.length = e.1 ∧ ys.length = e.2.1.length ∧ Sent asp (pick e.2.2 xs [] [.d .non] ys) M2 Φ Ψ) : AE B K (tCallD (conc K asp) e E t tk) σ M Φ := fun W μ H τ o s en Q q =>
  h W μ H τ o s en _ fun xs M1 W1 μ1 H1 vs p f1 r1 => p W1 μ1 H1 τ f1.ok f1.sim (f1.re en) _ fun ys M2 W2 μ2 H2 zs ⟨l1, l2, p2⟩ f2 r2 =>
    ⟨by rw [← r1.length]; exact l1, by rw [← r2.length]; exact l2, sent_run mono f2.ok f2.sim (pick_rasD _ (f2.ras r1) r2) p2 (fun z M' W' μ' H' v p3 f3 r3 => q _ _ _ _ _ _ p3 ((f1.trans f2).trans f3) r3) qe⟩
end
end Al
namespace Fy
open PySem PySem.Spec PyProof.Rows L2 Gx Al
variable [Al.TabList]
def BindKD (x : Str) (st : Stmt) (ps : List Str) (e : KwE) : Prop := ∀ (D : Addr) (doc pm : Value) (an : Option Addr) (cdv ct : Value) (us ws : List Value), us.length = e.1 → ws.length = e.2.1.length →
  bindArgs (PySem.W.fnOf x x (defArgs st) (defBody st) (defScope st) .none (.ref D) doc pm an cdv ct) ⟨us, e.2.1.zip ws⟩ = pure (ps.zip (pick e.2.2 us [] [.none] ws))
def BindK0 (x nm : Str) (st : Stmt) (ps : List Str) (e : KwE) : Prop := e.2.1 = [] ∧ ∀ (D : Addr) (doc pm : Value) (an : Option Addr) (cdv ct : Value) (us : List Value), us.length = e.1 →
  KwChain D [(nm, Value.none)] (bindArgs (PySem.W.fnOf x x (defArgs st) (defBody st) (defScope st) .none (.ref D) doc pm an cdv ct) ⟨us, []⟩) (ps.zip (pick e.2.2 us [] [.none] []))
section
variable {K : PySem.W.Frag} {h : Heap} {mg : Str → Option Value} {x nm : Str} {st : Stmt} {ps : List Str} {kws : List KwE} {f D : Addr} {oc : Value} {od an : Option Addr} {sl : Array (Option Value)} {dc pm cd ct : Value} {e : KwE}
theorem BindKD.ok (h : BindKD x st ps e) : KwOkD K (PySem.W.fnOf x x (defArgs st) (defBody st) (defScope st) .none (.ref D) dc pm an cd ct) ps e :=
  ⟨fun s us ws _ l1 l2 => .of_eq (h D dc pm an cd ct us ws l1 l2), fun r1 r2 => pick_rel e.2.2 r1 .nil (.cons rfl .nil) r2⟩
theorem BindK0.ok (h : BindK0 x nm st ps e) (hn : PySem.W.nsIn K D nm = some (some Value.none)) : KwOkD K (PySem.W.fnOf x x (defArgs st) (defBody st) (defScope st) .none (.ref D) dc pm an cd ct) ps e :=
  ⟨fun s us ws X l1 l2 => by
    obtain ⟨e0, h⟩ := h
    rw [e0] at l2 ⊢
    obtain rfl := List.length_eq_zero_iff.mp l2
    exact BindsTo.of_looks fun M => KwChain.looks X (fun q hq => by rw [List.mem_singleton.mp hq]; exact hn) (h D dc pm an cd ct us l1), fun r1 r2 => pick_rel e.2.2 r1 .nil (.cons rfl .nil) r2⟩
end
end Fy
namespace Fy
open PySem PySem.Spec PyProof.Rows L2 Gx Al
variable [Al.TabList]
def BindK1 (x nm : Str) (st : Stmt) (ps : List Str) (e : KwE) : Prop := ∀ (D : Addr) (doc pm : Value) (an : Option Addr) (cdv ct : Value) (us ws : List Value), us.length = e.1 → ws.length = e.2.1.length →
  KwChain D [(nm, Value.none)] (bindArgs (PySem.W.fnOf x x (defArgs st) (defBody st) (defScope st) .none (.ref D) doc pm an cdv ct) ⟨us, e.2.1.zip ws⟩) (ps.zip (pick e.2.2 us [] [.none] ws))
section
variable {K : PySem.W.Frag} {h : Heap} {mg : Str → Option Value} {x nm : Str} {st : Stmt} {ps : List Str} {kws : List KwE} {f D : Addr} {oc : Value} {od an : Option Addr} {sl : Array (Option Value)} {dc pm cd ct : Value} {e : KwE}
theorem BindK1.ok (h : BindK1 x nm st ps e) (hn : PySem.W.nsIn K D nm = some (some Value.none)) : KwOkD K (PySem.W.fnOf x x (defArgs st) (defBody st) (defScope st) .none (.ref D) dc pm an cd ct) ps e :=
  ⟨fun s us ws X l1 l2 => BindsTo.of_looks fun M => KwChain.looks X (fun q hq => by rw [List.mem_singleton.mp hq]; exact hn) (h D dc pm an cd ct us ws l1 l2), fun r1 r2 => pick_rel e.2.2 r1 .nil (.cons rfl .nil) r2⟩
theorem defatK_mk1 (X : K.In h) (G : h.Ns mainGlobals mg) (a : PySem.W.nsIn K mainGlobals x = some (some (.ref f))) (l : K.lookup f = some ⟨oc, od, .func (PySem.W.fnOf x x (defArgs st) (defBody st) (defScope st) .none (.ref D) dc pm an cd ct), sl⟩)
    (cc : PySem.W.codeIn K cd x = true) (k : PySem.W.keepIn K (.ref f) = true) (hn : PySem.W.nsIn K D nm = some (some Value.none)) (hk : ∀ e ∈ kws, BindKD x st ps e ∨ BindK0 x nm st ps e ∨ BindK1 x nm st ps e) : DefAtK K mg x st ps cd kws :=
  ⟨f, oc, od, _, dc, pm, an, ct, sl, l, cc, PySem.W.mg_of X G a, k, fun e he => (hk e he).elim (fun h => h.ok) fun h => h.elim (fun h => h.ok hn) fun h => h.ok hn⟩
end
end Fy
namespace Nd
def rngI (n : Nat) : List Int := (List.range n).map fun (i : Nat) => (i : Int)
/-- the rooms that some rooms hear, rising -/
def heardL (n : Nat) (ear : Int → List Int) (run : List Int) : List Int := (rngI n).filter fun j => run.any fun k => decide (j ∈ ear k)
theorem nodup_le {α : Type} [BEq α] [LawfulBEq α] {out : List α} : ∀ {ns : List α}, out.Nodup → (∀ k ∈ out, k ∈ ns) → out.length ≤ ns.length := by
  induction out with
  | nil => intro ns _ _; exact Nat.zero_le _
  | cons a o ih =>
    intro ns nd hs
    obtain ⟨ha, ho⟩ := List.nodup_cons.mp nd
    have hm := hs a List.mem_cons_self
    have := ih (ns := ns.erase a) ho fun k hk => (List.mem_erase_of_ne (fun (e : k = a) => ha (e ▸ hk))).mpr (hs k (List.mem_cons_of_mem _ hk))
    rw [List.length_erase_of_mem hm] at this
    have hp := List.length_pos_of_mem hm
    rw [List.length_cons]
    omega
end Nd
namespace Al
open PySem PyProof.Rows L2 Ow
variable [Al.TabList]
section
variable {X : Cx} {n m : Nat} {d1 d2 : D} {b : Bool} {l1 l2 : List D}
/-- == of two data within a builtin, below the running body: b, and things may only be made -/
def EqA (X : Cx) (n : Nat) (d1 d2 : D) (b : Bool) : Prop := ∀ (A : Around) (pins : List (Addr × Obj)) (s : Shared) (σ : L2.St) (H : Hp) (B : Base) (W : Hp) (μ : List Addr) (M : List MO) (v1 v2 : V) (u1 u2 : Value),
  Sub X n A → Inv X pins σ H s → Ok B W μ H → Sim X.K W μ M H → RD X.K W d1 v1 → RD X.K W d2 v2 → RelV v1 u1 → RelV v2 u2 →
    wpAny (model X.prog X.w) A (eqBool u1 u2) (fun r t => r = b ∧ ∃ W' H', Inv X pins σ H' t ∧ Go B X.K W μ W' μ M H') X.xe s
/-- the same of richCompare -/
def RcA (X : Cx) (n : Nat) (d1 d2 : D) (b : Bool) : Prop := ∀ (A : Around) (pins : List (Addr × Obj)) (s : Shared) (σ : L2.St) (H : Hp) (B : Base) (W : Hp) (μ : List Addr) (M : List MO) (v1 v2 : V) (u1 u2 : Value),
  Sub X n A → Inv X pins σ H s → Ok B W μ H → Sim X.K W μ M H → RD X.K W d1 v1 → RD X.K W d2 v2 → RelV v1 u1 → RelV v2 u2 →
    wpAny (model X.prog X.w) A (richCompare .Eq u1 u2) (fun r t => r = .bool b ∧ ∃ W' H', Inv X pins σ H' t ∧ Go B X.K W μ W' μ M H') X.xe s
theorem EqA.mono (h : EqA X n d1 d2 b) (hn : n ≤ m) : EqA X m d1 d2 b := fun A pins s σ H B W μ M v1 v2 u1 u2 sb => h A pins s σ H B W μ M v1 v2 u1 u2 (sb.mono hn)
theorem RcA.mono (h : RcA X n d1 d2 b) (hn : n ≤ m) : RcA X m d1 d2 b := fun A pins s σ H B W μ M v1 v2 u1 u2 sb => h A pins s σ H B W μ M v1 v2 u1 u2 (sb.mono hn)
def D.isRef : D → Bool | .tup _ => true | .lst _ => true | .scr _ => true | .ins _ _ _ => true | .clo _ _ => true | _ => false
theorem RD.ref {K : PySem.W.Frag} {W : Hp} {d : D} {v : V} (h : RD K W d v) (hd : d.isRef = true) : ∃ a, v = .ref a := by
  cases d with
  | tup l => obtain ⟨a, _, e, _⟩ := h; exact ⟨a, e⟩
  | lst l => obtain ⟨a, _, e, _⟩ := h; exact ⟨a, e⟩
  | scr l => obtain ⟨a, _, e, _⟩ := h; exact ⟨a, e⟩
  | ins C ns l => obtain ⟨a, _, _, e, _⟩ := h; exact ⟨a, e⟩
  | clo a x => exact ⟨a, h.1⟩
  | _ => cases hd
/-- pair by pair, up to the first unlike one -/
inductive PairsA (X : Cx) (n : Nat) : List D → List D → Bool → Prop
  | nil : PairsA X n [] [] true
  | left {x : D} {l : List D} : PairsA X n [] (x :: l) false
  | right {x : D} {l : List D} : PairsA X n (x :: l) [] false
  | yes {x y : D} {l1 l2 : List D} {b : Bool} (h : EqA X n x y true) (r : PairsA X n l1 l2 b) : PairsA X n (x :: l1) (y :: l2) b
  | no {x y : D} {l1 l2 : List D} (h : EqA X n x y false) : PairsA X n (x :: l1) (y :: l2) false
theorem PairsA.len (h : PairsA X n l1 l2 b) (hb : b = true) : l1.length = l2.length := by
  induction h with
  | nil => rfl
  | left => cases hb
  | right => cases hb
  | yes h r ih => rw [List.length_cons, List.length_cons, ih hb]
  | no h => cases hb
end
end Al
namespace Gx
open PySem PySem.Spec PyProof.Rows L2
end Gx
namespace Al
open PySem PyProof.Rows L2 Gx
end Al
namespace Al
open PySem PySem.Spec PyProof.Rows L2 Gx Lm Cb NdefX Dt
variable [Al.TabList]
/-- pokes: cells and stands -/
abbrev Pm := List ((Int × Int) × Int)
def pkD (pm : Pm) : KD := pm.map fun p => (key2 p.1, .int p.2)
def pokedB (pm : Pm) (c : Int × Int) : Bool := pm.any fun p => decide (p.1 = c)
def knB (pm : Pm) (c : Int × Int) : Bool := decide (c.2 = 0) || pokedB pm c
theorem key2_inj {p q : Int × Int} (h : key2 p = key2 q) : p = q := by
  unfold key2 at h
  obtain ⟨a, b⟩ := p
  obtain ⟨c, d⟩ := q
  simp at h
  rw [h.1, h.2]
theorem val_pkD (pm : Pm) (c : Int × Int) : (valG (pkD pm) (key2 c)).isSome = pokedB pm c := by
  unfold valG pkD pokedB
  rw [Option.isSome_map]
  induction pm with
  | nil => rfl
  | cons p l ih =>
    rw [List.map_cons, List.find?_cons, List.any_cons]
    by_cases e : p.1 = c
    · rw [e, decide_eq_true rfl, decide_eq_true rfl]
      rfl
    · rw [decide_eq_false e, decide_eq_false (fun z => e (key2_inj z))]
      exact ih
/-- pokes as they are handed in: None, a dict that stands for good, one that may change -/
inductive PkV (M : List MO) : AV → Pm → Prop
  | non : PkV M (.d .non) []
  | frz (pm : Pm) : PkV M (.d (dD (pkD pm))) pm
  | mm {k : Nat} {pm : Pm} (h : M[k]? = some (dM (pkD pm))) : PkV M (.m k) pm
def isNonA : AV → Bool | .d d => isNon d | .m _ => false
section
variable {B : Base} {K : PySem.W.Frag} {σ : AEnv} {M : List MO} {t : TA} {te : TE} {x y : AV} {Φ : AV → List MO → Prop} {pm : Pm}
/-- is not None -/
theorem ar_notPk (h : PkV M x pm) (k : Φ (.d (.bl (!isNonA x))) M) : AR B K (fun x y H Q => y = .non ∧ Q (.bl (!decide (x = .non))) H) x (.d .non) M Φ := by
  cases h with
  | non => exact ar_notN k
  | frz pm => exact ar_notN k
  | mm h =>
    refine fun W μ H u w o s hu hw Q qq => ?_
    obtain ⟨a, _, rfl⟩ := hu
    cases hw
    exact ⟨rfl, qq _ _ _ _ _ _ k (.refl o s) rfl⟩
theorem ar_inPk {c : Int × Int} (h : PkV M x pm) (hx : x ≠ .d .non) (k : Φ (.d (.bl (pokedB pm c))) M) : AR B K (rInD false) (.d (pk c)) x M Φ := by
  cases h with
  | non => exact absurd rfl hx
  | frz pm => exact ar_inF (neg := false) (by rw [if_neg Bool.false_ne_true, val_pkD]; exact k)
  | mm h => exact ar_inM (neg := false) h (by rw [if_neg Bool.false_ne_true, val_pkD]; exact k)
end
/-- cells are told of, over any store that begins so: by the lambda with the promise asp and the captured values cs -/
def Knows {ι : Type} (enc : ι → D) (asp : ASp) (cs : List AV) (M : List MO) (kn : ι → Bool) : Prop := ∀ (c : ι) (M' : List MO) (Φ : AV → List MO → Prop), M <+: M' → (∀ x M2, (x = .d (.bl (kn c)) ∧ M2 = M') → Φ x M2) → Sent asp (.d (enc c) :: cs) M' Φ (fun _ _ => False)
theorem uc_sortedDF {B : Base} {K : PySem.W.Frag} {M : List MO} {x : AV} {Φ : AV → List MO → Prop} {kvs : KD} {ps : List (Int × Int)} (h : DV M x kvs) (hps : kvs.map Prod.fst = ps.map key2) (k : ∀ ps' : List (Int × Int), ps'.Perm ps → SortedP ps' → Φ (.d (.lst (ps'.map pk))) M) : AC B K (uSortedP K) [x] M Φ := fun W μ H us o s r Q q => by
  obtain ⟨v, rfl, r'⟩ := ra_one r
  obtain ⟨a, cvs, rfl, h1, h2⟩ := h.run s r'
  have hfst : cvs.map Prod.fst = ps.map key2 := by
    rw [← hps]
    have := (h2.back).1
    rw [this, List.map_fst_zip]
    rw [List.length_map, List.length_map, h2.len]; exact Nat.le_refl _
  refine .inr ⟨a, cvs, ps, rfl, h1, hfst, fun bs ys p hk g1 g2 hp => ?_⟩
  obtain ⟨W', g, rd⟩ := go_tups o s (isKeys_ks h2 hk)
  rw [hps, List.map_map] at rd
  obtain ⟨e1, e2, e3⟩ := pairs_of (ps := ps) g.sim.sub rd
  have hys : ∀ x ∈ ys, RD K W' (pk (pairOf H x)) x := fun x hx => e3 x (g2.perm.mem_iff.mp hx)
  have g5 := go_new (u := .lst ys) g.ok g.sim hp
  exact q _ _ _ _ _ _ (k (ys.map (pairOf H)) (by rw [← e1]; exact g2.perm.map _) (List.pairwise_map.mpr g1)) (g.trans g5) ⟨p, ys, rfl, upd_same, (rds_pairs hys).mono g5.wext⟩
end Al
namespace Al
open PySem PySem.Spec PyProof.Rows L2 Gx Lm Cb NdefX
variable [Al.TabList]
structure BaseLe (K : PySem.W.Frag) (mg : Str → Option Value) (b b' : Heap) : Prop where
  mod : Mod K mg b
  sub : ∀ a o, b.get? a = some o → b'.get? a = some o
  sz : b.objs.size ≤ b'.objs.size
theorem rebase {h b b' : Heap} : ∀ {l : List Env}, (∀ L ∈ frs l, b'.get? L = none) → h.FunFrames b l → h.FunFrames b' l
  | [], _, _ => trivial
  | env :: r, hn, ⟨hk, ⟨L, o, hf, _, ho, hd⟩, hr⟩ => by
    have e : frs (env :: r) = L :: frs r := by unfold frs; rw [List.filterMap_cons, hf]
    exact ⟨hk, ⟨L, o, hf, hn L (by rw [e]; exact List.mem_cons_self), ho, hd⟩, rebase (fun b hb => hn b (by rw [e]; exact List.mem_cons_of_mem _ hb)) hr⟩
section
variable {P : Program} {w : World} {K : PySem.W.Frag} {mg : Str → Option Value} {b b' : Heap} {A : Around} {outer : List Env} {s : Shared} {H : Hp}
theorem BaseLe.down (le : BaseLe K mg b b') (e : Env0 P w K mg b' A outer s H) : Env0 P w K mg b A outer s H :=
  ⟨e.frames, le.mod, fun a o h => e.bs a o (le.sub a o h), Nat.le_trans le.sz e.bsz, rebase (fun L hL => by
    cases q : b.get? L with
    | none => rfl
    | some o =>
      have := (PySem.Heap.FunFrames.mem e.funs (b := L) hL).1
      rw [le.sub _ _ q] at this
      cases this) e.funs, e.frf, e.hok, e.bare⟩
theorem BaseLe.fn (le : BaseLe K mg b b') {CX : CXT} {k : Nat} {f : Addr} {fd : FuncData} {ps : List Str} {sp : Sp} (F : FnOk P w K mg b CX k f fd ps sp) : FnOk P w K mg b' CX k f fd ps sp :=
  ⟨F.len, fun A outer s H args us vs Q E hr e => F.run A outer s H args us vs Q E hr (le.down e)⟩
theorem FnAt.lift {CX : CXT} {k : Nat} {x : Str} {ps : List Str} {asp : ASp} {kws : List KwE} (G : FnAt P w K mg b CX k x ps asp kws) (le : BaseLe K mg b b') : FnAt P w K mg b' CX k x ps asp kws := by
  obtain ⟨f, fd, F, r⟩ := G.ex
  exact ⟨f, fd, le.fn F, r⟩
theorem MethAt.lift {CX : CXT} {k : Nat} {C : Addr} {x : Str} {ps : List Str} {asp : ASp} {kws : List KwE} (G : MethAt P w K mg b CX k C x ps asp kws) (le : BaseLe K mg b b') : MethAt P w K mg b' CX k C x ps asp kws := by
  obtain ⟨f, fd, F, r⟩ := G.ex
  exact ⟨f, fd, le.fn F, r⟩
theorem MkAt.lift {CX : CXT} {k : Nat} {C : Addr} {x : Str} {ps : List Str} {asp : ASp} {kws : List KwE} (G : MkAt P w K mg b CX k C x ps asp kws) (le : BaseLe K mg b b') : MkAt P w K mg b' CX k C x ps asp kws := by
  obtain ⟨f, fd, F, r⟩ := G.ex
  exact ⟨f, fd, le.fn F, r⟩
theorem FnAtK.lift {CX : CXT} {k : Nat} {x : Str} {ps : List Str} {asp : ASp} {kws : List KwE} (G : FnAtK P w K mg b CX k x ps asp kws) (le : BaseLe K mg b b') : FnAtK P w K mg b' CX k x ps asp kws := by
  obtain ⟨f, fd, F, r⟩ := G.ex
  exact ⟨f, fd, le.fn F, r⟩
theorem BaseLe.lok (le : BaseLe K mg b b') {CX : CXT} {k : Nat} {f : Addr} {F : LF} {ps fr : List Str} {ws : List (Option V)} {Cs : List CB} {sp : Sp} (o : LOk P w K mg b CX k f F ps fr ws Cs sp) : LOk P w K mg b' CX k f F ps fr ws Cs sp :=
  ⟨o.len, fun A outer s H us vs Q E hr e => o.run A outer s H us vs Q E hr (le.down e)⟩
theorem LamAt.lift {c Pt : Addr} {q : Str} (L : LamAt b mg c Pt q) (le : BaseLe K mg b b') : LamAt b' mg c Pt q := ⟨L.mem, L.one, L.tb.code.keeps le.sub, L.tb.bm.keeps le.sub, L.tb.gP⟩
/-- the captured cells stand in the base -/
structure CellsB (c : CB) (b : Heap) : Prop where
  len : c.ws.length = c.fr.length
  all : ∀ y a, c.cl.lookup y = some a → ∃ v, b.IsCell a v
  inj : ∀ x y a, c.cl.lookup x = some a → c.cl.lookup y = some a → x = y
  has : ∀ (i : Nat) (y : Str), c.fr[i]? = some y → ∃ a, c.cl.lookup y = some a ∧ ∀ v, c.ws[i]? = some (some v) → ∃ u, L2.RelV v u ∧ b.IsCell a (some u)
def AllB (Cs : List CB) (b : Heap) : Prop := ∀ c ∈ Cs, CellsB c b
theorem AllB.at {X : Cx} {pins : List (Addr × Obj)} {σ : L2.St} {Cs : List CB} (h : AllB Cs X.base) (I : L2.Inv X pins σ H s) : All Cs s.heap H X.stack := fun c hc => by
  have z := h c hc
  have k : ∀ {a v}, X.base.IsCell a v → H a = none ∧ s.heap.IsCell a v := fun {a v} ⟨o, ho, hd⟩ => ⟨(I.bs a o ho).2, o, (I.bs a o ho).1, hd⟩
  refine ⟨⟨z.len, fun y a e => ?_, z.inj, fun i y e => ?_⟩, fun y a e hb => ?_⟩
  · obtain ⟨v, q⟩ := z.all y a e
    exact ⟨(k q).1, v, (k q).2⟩
  · obtain ⟨a, ha, hv⟩ := z.has i y e
    exact ⟨a, ha, fun v ev => let ⟨u, r, q⟩ := hv v ev; ⟨u, r, (k q).2⟩⟩
  · obtain ⟨v, o, ho, _⟩ := z.all y a e
    have := (PySem.Heap.FunFrames.mem I.stack hb).1
    rw [ho] at this
    cases this
/-- at a call the cells join the base -/
theorem base_with {Cs : List CB} (e : Env0 P w K mg b A outer s H) (hC : All Cs s.heap H outer) : ∃ b', BaseLe K mg b b' ∧ Env0 P w K mg b' A outer s H ∧ AllB Cs b' := by
  classical
  let S : Addr → Prop := fun a => (∃ o, b.get? a = some o) ∨ ∃ c ∈ Cs, ∃ y, c.cl.lookup y = some a
  let Hs : Hp := fun a => if S a then none else some (.tup [])
  have hs : ∀ {a}, S a → Hs a = none := fun {a} h => if_pos h
  have sh : ∀ {a}, Hs a = none → S a := fun {a} h => by
    by_cases q : S a
    · exact q
    · have : Hs a = some (.tup []) := if_neg q
      rw [this] at h; cases h
  refine ⟨hidT s.heap Hs, ⟨e.mod, fun a o h => hidT_get (e.bs a o h).1 (hs (.inl ⟨o, h⟩)), by rw [hidT_size]; exact e.bsz⟩, ⟨e.frames, ?_, fun a o h => ?_, Nat.le_of_eq (hidT_size _ _), rebase (fun L hL => ?_) e.funs, e.frf, e.hok, e.bare⟩, fun c hc => ⟨(hC c hc).1.len, fun y a q => ?_, (hC c hc).1.inj, fun i y q => ?_⟩⟩
  · have kp : ∀ a o, b.get? a = some o → (hidT s.heap Hs).get? a = some o := fun a o h => hidT_get (e.bs a o h).1 (hs (.inl ⟨o, h⟩))
    exact ⟨e.mod.kin.keeps kp, e.mod.glob.keeps kp, let ⟨mb, h1, h2⟩ := e.mod.blt; ⟨mb, h1.keeps kp, h2⟩, e.mod.nolimit.keeps kp⟩
  · obtain ⟨h1, h2⟩ := of_hidT h
    refine ⟨h1, ?_⟩
    rcases sh h2 with ⟨o', z⟩ | ⟨c, hc, y, z⟩
    · exact (e.bs a o' z).2
    · exact ((hC c hc).1.all y a z).1
  · cases q : (hidT s.heap Hs).get? L with
    | none => rfl
    | some o =>
      obtain ⟨h1, h2⟩ := of_hidT q
      rcases sh h2 with ⟨o', z⟩ | ⟨c, hc, y, z⟩
      · have := (PySem.Heap.FunFrames.mem e.funs (b := L) hL).1
        rw [z] at this
        cases this
      · exact absurd hL ((hC c hc).2 y L z)
  · obtain ⟨_, v, o, ho, hd⟩ := (hC c hc).1.all y a q
    exact ⟨v, o, hidT_get ho (hs (.inr ⟨c, hc, y, q⟩)), hd⟩
  · obtain ⟨a, ha, hv⟩ := (hC c hc).1.has i y q
    exact ⟨a, ha, fun v ev => let ⟨u, r, o, ho, hd⟩ := hv v ev; ⟨u, r, o, hidT_get ho (hs (.inr ⟨c, hc, y, ha⟩)), hd⟩⟩
theorem FnOkB.of_base {CX : CXT} {k : Nat} {f : Addr} {fd : FuncData} {ps : List Str} {Cs : List CB} {sp : Sp} (len : ∀ vs H Q E, sp vs H Q E → vs.length = ps.length) (h : ∀ b', BaseLe K mg b b' → AllB Cs b' → FnOk P w K mg b' CX k f fd ps sp) : FnOkB P w K mg b CX k f fd ps Cs sp :=
  ⟨len, fun A outer s H args us vs Q E hr e hC => by
    obtain ⟨b', le, e', hB⟩ := base_with e hC
    exact (h b' le hB).run A outer s H args us vs Q E hr e'⟩
end
end Al
namespace Al
open PySem PySem.Spec PyProof.Rows L2 Gx Lm Cb NdefX
variable [Al.TabList]
def stV : Stmt → Expr
  | .Assign _ v _ => v
  | .Return (some v) _ => v
  | .Expr v _ => v
  | _ => default
def exA : Expr → Nat → Expr
  | .Call _ a _ _, i => a.getD i default
  | .Subscript v _ _, _ => v
  | e, _ => e
def lamP : Expr → Arguments | .Lambda a _ _ _ => a | _ => default
def lamB : Expr → Expr | .Lambda _ b _ _ => b | _ => default
def lamS : Expr → Scope | .Lambda _ _ s _ => s | _ => { kind := .function, names := [], isGenerator := false, isCoroutine := false }
structure LamZ (P : Program) (w : World) (K : PySem.W.Frag) (mg : Str → Option Value) (base : Heap) (k : Nat) where
  f : Addr
  F : LF
  ps : List Str
  fr : List Str
  ws : List V
  C : List CB
  sp : Sp
  ok : LOk P w K mg base CX0 k f F ps fr (ws.map some) C sp
section
variable {P : Program} {w : World} {K : PySem.W.Frag} {mg : Str → Option Value} {base b' : Heap} {k : Nat}
def LamZ.Cs (z : LamZ P w K mg base k) : List CB := ⟨z.F.cl, z.fr, z.ws.map some⟩ :: z.C
def LamZ.d (z : LamZ P w K mg base k) : D := lamD z.f z.F.c z.F
def LamZ.up (z : LamZ P w K mg base k) (le : BaseLe K mg base b') {j : Nat} (h : k ≤ j) : LamZ P w K mg b' j := ⟨z.f, z.F, z.ps, z.fr, z.ws, z.C, z.sp, (le.lok z.ok).mono h⟩
/-- the lambda's promise tells kn of things, over any store that begins so -/
def Tells (K : PySem.W.Frag) {ι : Type} (enc : ι → D) (sp : Sp) (W : Hp) (μ : List Addr) (M : List MO) (dom : ι → Prop) (kn : ι → Bool) : Prop :=
  ∀ (c : ι), dom c → ∀ (W1 : Hp) (μ1 : List Addr) (M1 : List MO) (H1 : Hp) (v : V), Same W W1 → μ <+: μ1 → M <+: M1 → Sim K W1 μ1 M1 H1 → RD K W1 (enc c) v → ∀ Q : VK, (∀ W2 H2, Go ⟨W1, μ1, H1⟩ K W1 μ1 W2 μ1 M1 H2 → Q (.bl (kn c)) H2) → sp [v] H1 Q (fun _ _ _ => False)
theorem Tells.mono {ι : Type} {enc : ι → D} {sp : Sp} {W W' : Hp} {μ μ' : List Addr} {M M' : List MO} {dom : ι → Prop} {kn : ι → Bool} (h : Tells K enc sp W μ M dom kn) (e1 : Same W W') (e2 : μ <+: μ') (e3 : M <+: M') : Tells K enc sp W' μ' M' dom kn := fun c hc W1 μ1 M1 H1 v a b d => h c hc W1 μ1 M1 H1 v (e1.trans a) (e2.trans b) (e3.trans d)
theorem Tells.of_knows {ι : Type} {enc : ι → D} {asp : ASp} {W : Hp} {μ : List Addr} {M : List MO} {dom : ι → Prop} {kn : ι → Bool} {cs : List AV} {wsv : List V} (mono : Mono asp) (h : Knows enc asp cs M kn) (r : RAs K W μ cs wsv) : Tells K enc (concL K asp wsv) W μ M dom kn := fun c _ W1 μ1 M1 H1 v a b d s rv Q q => by
  obtain ⟨ext, rfl⟩ := b
  exact sent_run (B := ⟨W1, μ ++ ext, H1⟩) mono .refl s (ras_cons (x := .d (enc c)) rv (r.mono a)) (h c M1 (fun x M2 => x = .d (.bl (kn c)) ∧ M2 = M1) d fun x M2 e => e) (fun z M' W' μ' H' v' ⟨e1, e2⟩ g rr => by
    subst e1; subst e2
    obtain ⟨e', he⟩ := g.mext
    have hl := g.sim.len
    rw [he, List.length_append, s.len] at hl
    have e0 : e' = [] := List.eq_nil_of_length_eq_zero (by omega)
    subst e0
    rw [List.append_nil] at he
    subst he
    cases rr
    exact q _ _ g) efits_none
/-- the promise of a def that is handed such a lambda -/
def concZ (K : PySem.W.Frag) {ι : Type} (enc : ι → D) (sp : Sp) (asp : (ι → Prop) → (ι → Bool) → ASp) : Sp := fun vs H Q E => ∃ W μ M xs dom kn, Sim K W μ M H ∧ RAs K W μ xs vs ∧ Tells K enc sp W μ M dom kn ∧
  asp dom kn xs M (fun x M' => ∀ W' μ' H' v, Go ⟨W, μ, H⟩ K W μ W' μ' M' H' → RA K W' μ' x v → Q v H') (fun x M' => ∀ W' μ' H' cls d, Go ⟨W, μ, H⟩ K W μ W' μ' M' H' → RX K W' H' x cls d → E cls d H')
structure FnAtZ (P : Program) (w : World) (K : PySem.W.Frag) (mg : Str → Option Value) (base : Heap) (CX : CXT) (k : Nat) (j : Nat) (x : Str) (ps : List Str) {ι : Type} (enc : ι → D) (asp : D → (ι → Prop) → (ι → Bool) → ASp) : Prop where
  ex : ∃ g fd, mg x = some (.ref g) ∧ PySem.W.keepIn K (.ref g) = true ∧ Binds K fd ps [] ∧ ∀ z : LamZ P w K mg base j, FnOkB P w K mg base CX k g fd ps z.Cs (concZ K enc z.sp (asp z.d))
end
section
variable {P : Program} {w : World} {K : PySem.W.Frag} {mg : Str → Option Value} {base : Heap} {ι : Type} {enc : ι → D} {asp : D → (ι → Prop) → (ι → Bool) → ASp} {k j : Nat} {x : Str} {st : Stmt} {ps N : List Str}
theorem concZ_len {sp : Sp} {asp : (ι → Prop) → (ι → Bool) → ASp} {n : Nat} (len : ∀ dom kn xs M Φ Ψ, asp dom kn xs M Φ Ψ → xs.length = n) : ∀ vs H Q E, concZ K enc sp asp vs H Q E → vs.length = n := fun vs H Q E ⟨W, μ, M, xs, dom, kn, _, r, _, ha⟩ => by
  rw [← r.length]; exact len _ _ _ _ _ _ ha
theorem concZ_body {sp : Sp} {asp : (ι → Prop) → (ι → Bool) → ASp} {t : TS} {vs : List V} {H : Hp} {Q : VK} {E : XK} (h : concZ K enc sp asp vs H Q E)
    (body : ∀ (B : Base) xs M dom kn Φ Ψ, B.μ0.length = M.length → Tells K enc sp B.W0 B.μ0 M dom kn → asp dom kn xs M Φ Ψ → EFits B K (XT M.length Ψ) E → AS B K t (startA N xs) M (defEnds M.length Φ)) : t { nx := fun _ H' => Q .non H', rt := Q } (L2.start N vs) H := by
  obtain ⟨W, μ, M, xs, dom, kn, s, r, ht, ha⟩ := h
  exact conc_core s r fun hE => body ⟨W, μ, H⟩ xs M dom kn _ _ s.len ht ha hE
theorem fnatZ {kws : List KwE} (D : DefAt K mg x st ps kws) (S : FnScope N ps (defScope st)) (len : ∀ d dom kn xs M Φ Ψ, asp d dom kn xs M Φ Ψ → xs.length = ps.length)
    (hbody : ∀ (b' : Heap) (le : BaseLe K mg base b') (z : LamZ P w K mg b' j) (hC : AllB z.Cs b') (f : Addr) (cdv : Value) (A : Around) (outer : List Env) (s : Shared) (H : Hp) (E : XK), Room k (A.deeper (envOfC x (defScope st) s.heap.objs.size f cdv)) →
      ∃ t, PSs (cxOf CX0 P w K mg b' N x (defScope st) f cdv A outer s H E).nox (defBody st) t ∧ ∀ (B : Base) xs M dom kn Φ Ψ, B.μ0.length = M.length → Tells K enc z.sp B.W0 B.μ0 M dom kn → asp z.d dom kn xs M Φ Ψ → AS B K t (startA N xs) M (defEnds M.length Φ)) : FnAtZ P w K mg base CX0 (k + 1) j x ps enc asp := by
  obtain ⟨f, fd, F, hm, hb, _⟩ := D.ex
  refine ⟨f, fd, hm, F.kp, hb, fun z => ?_⟩
  obtain ⟨oc, od, kV, doc, pm, an, cdv, ct, osl, rfl, lk, hcd⟩ := F.ex
  have hlen := concZ_len (K := K) (enc := enc) (sp := z.sp) (asp := asp z.d) (len z.d)
  refine FnOkB.of_base hlen fun b' le hC => fn_of lk hcd S hlen fun A outer s H vs Q E hr h => ?_
  obtain ⟨t, h1, h2⟩ := hbody b' le (z.up le (Nat.le_refl _)) hC f cdv A outer s H E hr
  exact ⟨t, h1.nox, concZ_body h fun B xs M dom kn Φ Ψ hB ht ha _ => h2 B xs M dom kn Φ Ψ hB ht ha⟩
end
section
variable {X : Cx} {ps : List Str} {k j i : Nat} {x : Str} {ι : Type} {enc : ι → D} {asp : D → (ι → Prop) → (ι → Bool) → ASp} {E : XK} {t : TA} {e : Expr} {es : List Expr} {p pos : Pos} {cl : List (Str × Addr)} {fr : List Str} {C0 : List CB} {js : List Nat}
/-- the call of the held lambda -/
theorem pe_tell {P : Program} {w : World} {mg : Str → Option Value} {base : Heap} {K : PySem.W.Frag} (z : LamZ P w K mg base k) (hC : ∀ {pins : List (Addr × Obj)} {σ : L2.St} {H : Hp} {s : Shared}, Inv X pins σ H s → All z.Cs s.heap H X.stack) (hr : Room k X.A) (hx : Passes CX0 X E)
    (hN : X.N[i]? = some x) (hv : Vis X.env.scope x) (ha : PA X (e :: es) t) (hd : (x == ("__debug__" : Str)) = false := by decide) (hcd : (x == ("__classdict__" : Str)) = false := by decide)
    (he : starEach (e :: es) X.env = (false, eval e X.env) :: starEach es X.env := by rfl) (hpl : (backTo pos (starEach es X.env)).any (·.1) = false := by rfl) (hK : X.K = K := by rfl) (hP : X.prog = P := by rfl) (hw : X.w = w := by rfl) (hmg : X.mg = mg := by rfl) (hbs : X.base = base := by rfl) :
    PE X (.Call (.Name x p) (e :: es) [] pos) (tCallV i z.f z.F z.sp E t) := by
  subst hK hP hw hmg hbs
  exact pe_callV z.ok hC hr hx hN hv ha hd hcd he hpl
theorem pe_fnZ {P : Program} {w : World} {mg : Str → Option Value} {base : Heap} {K : PySem.W.Frag} (mkz : Addr → Addr → List V → LamZ P w K mg base j) (G : FnAtZ P w K mg base CX0 k j x ps enc asp) (hz : ∀ f c' wsv, (mkz f c' wsv).Cs = ⟨cl, fr, wsv.map some⟩ :: C0) (hf : ∀ y, X.fn y = true) (cp : X.Ok → Caps X cl fr js) (h0 : AllB C0 base)
    (hr : Room k X.A) (hg : Gl X x) (hx : Passes CX0 X E) (ha : PA X (e :: es) t) (hdb : (x == ("__debug__" : Str)) = false := by decide)
    (he : starEach (e :: es) X.env = (false, eval e X.env) :: starEach es X.env := by rfl) (hpl : (backTo pos (starEach es X.env)).any (·.1) = false := by rfl) (hK : X.K = K := by rfl) (hP : X.prog = P := by rfl) (hw : X.w = w := by rfl) (hmg : X.mg = mg := by rfl) (hbs : X.base = base := by rfl) :
    PE X (.Call (.Name x p) (e :: es) [] pos) (tCallI (SelM mkz js) (fun z => concZ K enc z.sp (asp z.d)) E t) := by
  subst hK hP hw hmg hbs
  obtain ⟨g, fd, hm, hk, hb, Fn⟩ := G.ex
  refine pe_callI Fn (fun {pins σ H s z} I hs => ?_) hr hg hm hk hb hx ha hdb he hpl
  obtain ⟨f, c', wsv, rfl, hw⟩ := hs
  rw [hz]
  refine All.cons ?_ (h0.at I)
  rw [← hw]
  exact All.made I hf cp
end
section
variable {B : Base} {K : PySem.W.Frag} {σ : AEnv} {M : List MO} {ta : TA} {Φ : AV → List MO → Prop} {W W' H H' : Hp} {μ μ' : List Addr}
theorem ae_tell {P : Program} {w : World} {mg : Str → Option Value} {base : Heap} {k i : Nat} {z : LamZ P w K mg base k} {ι : Type} {enc : ι → D} {M0 : List MO} {dom : ι → Prop} {kn : ι → Bool} (hT : Tells K enc z.sp B.W0 B.μ0 M0 dom kn) (hσ : σ[i]? = some (some (.d z.d)))
    (h : AA B K ta σ M fun xs M1 => ∃ c, xs = [.d (enc c)] ∧ dom c ∧ M0 <+: M1 ∧ Φ (.d (.bl (kn c))) M1) : AE B K (tCallV i z.f z.F z.sp (fun _ _ _ => False) ta) σ M Φ := fun W μ H τ o s e Q q => by
  obtain ⟨v, h1, rfl, hw⟩ := e.2 i _ hσ
  have hf : W z.f = some (LamO z.f z.F) := hw _ List.mem_cons_self
  have hcd : W z.F.c = some (LamX.CodeO z.F.c z.F.qual) := hw _ (List.mem_cons_of_mem _ List.mem_cons_self)
  refine ⟨h1, s.sub _ _ hf, h W μ H τ o s e _ fun xs M1 W1 μ1 H1 vs ⟨c, e1, hdm, hM, p⟩ f1 r1 => ⟨f1.sim.sub _ _ (f1.wext _ _ hf), f1.sim.sub _ _ (f1.wext _ _ hcd), ?_⟩⟩
  subst e1
  obtain ⟨v, rfl, rv⟩ := ra_one r1
  refine hT c hdm W1 μ1 M1 H1 v f1.ok.wsub (let ⟨ext, e1, _⟩ := f1.ok.pre; ⟨ext, e1.symm⟩) hM f1.sim rv Q fun W2 H2 g => ?_
  exact q _ _ _ _ _ _ p (f1.trans (Go.up f1.ok g)) rfl
theorem subA_range {n : Nat} (h : n ≤ μ.length) : subA μ (List.range n) = μ.take n := by
  apply List.ext_getElem?
  intro i
  unfold subA
  rw [List.getElem?_map, List.getElem?_take]
  by_cases hi : i < n
  · rw [List.getElem?_range hi, if_pos hi]
    simp [List.getD, List.getElem?_eq_getElem (show i < μ.length by omega)]
  · rw [if_neg hi, List.getElem?_eq_none (by rw [List.length_range]; omega)]
    rfl
theorem renV_range {n m : Nat} {x : AV} (h : x.below n = true) : renV m (List.range n) x = x := by
  cases x with
  | d x => rfl
  | m k =>
    have hk : k < n := of_decide_eq_true h
    show AV.m (if k < (List.range n).length then (List.range n).getD k 0 else _) = _
    rw [if_pos (by rw [List.length_range]; exact hk), List.getD, List.getElem?_range hk]
    rfl
theorem renVs_range {n m : Nat} {l : List AV} (h : l.all (AV.below n) = true) : l.map (renV m (List.range n)) = l := by
  conv => rhs; rw [← List.map_id l]
  exact List.map_congr_left fun x hx => renV_range (List.all_eq_true.mp h x hx)
theorem renO_range {n m : Nat} {o : MO} (h : o.below n = true) : renO m (List.range n) o = o := by
  cases o with
  | lst l => rfl
  | ins C ns l => exact congrArg (MO.ins C ns) (renVs_range h)
  | ls l => exact congrArg MO.ls (renVs_range h)
  | dT ks l => exact congrArg (MO.dT ks) (renVs_range h)
  | dK ks l => exact congrArg (MO.dK ks) (renVs_range h)
theorem putK_range {n : Nat} (h : n ≤ M.length) : putK M (List.range n) (M.take n) = M := by
  apply List.ext_getElem?
  intro j
  by_cases hj : j < n
  · have hl : j < (putK M (List.range n) (M.take n)).length := by rw [putK_len]; omega
    have q := putK_in M (List.range n) (M.take n) j j _ List.nodup_range (fun k hk => by have := List.mem_range.mp hk; omega) (List.getElem?_range hj) (List.getElem?_eq_getElem hl) (by rw [List.length_range, List.length_take]; omega)
    rw [List.getElem?_take, if_pos hj] at q
    rw [q, List.getElem?_eq_getElem hl]
  · exact putK_out _ _ _ _ fun hm => hj (List.mem_range.mp hm)
theorem go_callP {n : Nat} {X : List MO} (o : Ok B W μ H) (s : Sim K W μ M H) (hn : n ≤ M.length) (hb : ∀ o ∈ M.take n, o.below n = true) (f : Go ⟨W, μ.take n, H⟩ K W (μ.take n) W' μ' (M.take n ++ X) H') :
    ∃ e, μ' = μ.take n ++ e ∧ Go B K W μ W' (μ ++ e) (M ++ X.map (renO M.length (List.range n))) H' := by
  have hl := s.len
  have e1 : subA μ (List.range n) = μ.take n := subA_range (by omega)
  rw [← e1] at f
  obtain ⟨e, h1, h2⟩ := go_call (M2a := M.take n) (M2b := X) o s List.nodup_range (fun k hk => by have := List.mem_range.mp hk; omega) (by rw [List.length_take, List.length_range]; omega) f
  have e2 : (M.take n).map (renO μ.length (List.range n)) = M.take n := by
    conv => rhs; rw [← List.map_id (M.take n)]
    exact List.map_congr_left fun x hx => renO_range (hb x hx)
  rw [e2, putK_range hn, hl] at h2
  rw [e1] at h1
  exact ⟨e, h1, h2⟩
theorem sim_take {n : Nat} (s : Sim K W μ M H) (hb : ∀ o ∈ M.take n, o.below n = true) : Sim K W (μ.take n) (M.take n) H := by
  refine ⟨s.sub, s.nd.sublist (List.take_sublist _ _), by rw [List.length_take, List.length_take, s.len], fun a h => s.out a (List.mem_of_mem_take h), fun k a o q1 q2 => ?_, s.tab, s.tw⟩
  have hm := hb o (List.mem_of_getElem? q2)
  rw [List.getElem?_take] at q1 q2
  by_cases hk : k < n
  · rw [if_pos hk] at q1 q2
    have q := s.ob k a o q1 q2
    cases o with
    | lst l => exact q
    | ins C ns l => obtain ⟨dx, vs, z1, z2, z3⟩ := q; exact ⟨dx, vs, z1, z2, ras_below z3 hm⟩
    | ls l => obtain ⟨vs, z1, z3⟩ := q; exact ⟨vs, z1, ras_below z3 hm⟩
    | dT ks l => obtain ⟨vs, z1, z2, z3⟩ := q; exact ⟨vs, z1, z2, ras_below z3 hm⟩
    | dK ks l => obtain ⟨vs, z1, z2, z3⟩ := q; exact ⟨vs, z1, z2, ras_below z3 hm⟩
  · rw [if_neg hk] at q1; cases q1
/-- g(..), the lambda made just now handed over: what it tells, by what it captured; the store's first n objects go along -/
theorem ae_fnZ {P : Program} {w : World} {mg : Str → Option Value} {base : Heap} {j : Nat} {ι : Type} {enc : ι → D} {asp : D → (ι → Prop) → (ι → Bool) → ASp} {mkz : Addr → Addr → List V → LamZ P w K mg base j} {js : List Nat} {caps : List AV} {E : XK} {dz : Addr → Addr → D} (mono : ∀ d dom kn, Mono (asp d dom kn)) (hd : ∀ f c' wsv, (mkz f c' wsv).d = dz f c')
    (hσ : js.map (fun j => σ[j]?) = caps.map (fun a => some (some a)))
    (h : AA B K ta σ M fun xs M1 => ∃ f c' n dom kn, n ≤ M1.length ∧ (∀ o ∈ M1.take n, o.below n = true) ∧ xs.all (AV.below n) = true ∧
      (∀ W1 μ1 wsv, Same B.W0 W1 → B.μ0 <+: μ1 → RAs K W1 μ1 caps wsv → Tells K enc (mkz f c' wsv).sp W1 (μ1.take n) (M1.take n) dom kn) ∧
      asp (dz f c') dom kn xs (M1.take n) (fun x M' => (M' = M1.take n ∧ ∃ d, x = .d d ∧ Φ (.d d) M1) ∨ (∃ l, M' = M1.take n ++ [.lst l] ∧ x = .m n ∧ Φ (.m M1.length) (M1 ++ [.lst l]))) (fun _ _ => False)) :
    AE B K (tCallI (SelM mkz js) (fun z => concZ K enc z.sp (asp z.d)) E ta) σ M Φ := fun W μ H τ o s e Q q => by
  obtain ⟨wsv, h1, h2⟩ := slots_of e hσ
  refine h W μ H τ o s e _ fun xs M1 W1 μ1 H1 vs ⟨f, c', n, dom, kn, hn, hb, hx, hT, p⟩ f1 r1 => ⟨mkz f c' wsv, ⟨f, c', wsv, rfl, h1⟩, ?_⟩
  have hl := f1.sim.len
  refine ⟨W1, μ1.take n, M1.take n, xs, dom, kn, sim_take f1.sim hb, ras_below r1 hx, hT W1 μ1 wsv f1.ok.wsub (let ⟨ext, e1, _⟩ := f1.ok.pre; ⟨ext, e1.symm⟩) (f1.ras h2), ?_⟩
  rw [hd]
  refine mono _ _ _ _ _ _ _ _ _ (fun x M' hp W' μ' H' v g rv => ?_) (fun _ _ z => z.elim) p
  rcases hp with ⟨rfl, d, rfl, p⟩ | ⟨l, rfl, rfl, p⟩
  · obtain ⟨e', he, g2⟩ := go_callP (X := []) f1.ok f1.sim hn hb (by rw [List.append_nil]; exact g)
    rw [List.map_nil, List.append_nil] at g2
    exact q _ _ _ _ _ _ p (f1.trans g2) rv
  · obtain ⟨e', he, g2⟩ := go_callP (X := [.lst l]) f1.ok f1.sim hn hb g
    obtain ⟨a, ha, rfl⟩ := rv
    refine q _ _ _ _ _ _ p (f1.trans g2) ⟨a, ?_, rfl⟩
    have hm : (μ1.take n).length = n := by rw [List.length_take]; omega
    rw [he, List.getElem?_append_right (by omega), hm, Nat.sub_self] at ha
    rw [List.getElem?_append_right (by omega), hl, Nat.sub_self]
    exact ha
inductive FrzL (n : Nat) (M : List MO) : List AV → List D → Prop
  | nil : FrzL n M [] []
  | dat {x : D} {l : List AV} {ds : List D} (h : FrzL n M l ds) : FrzL n M (.d x :: l) (x :: ds)
  | lst {k : Nat} {L : List D} {l : List AV} {ds : List D} (hn : n ≤ k) (hk : M[k]? = some (.lst L)) (h : FrzL n M l ds) : FrzL n M (.m k :: l) (.lst L :: ds)
theorem FrzL.run {n : Nat} {xs : List AV} {ds : List D} (s : Sim K W μ M H) (z : FrzL n M xs ds) : ∀ {vs : List V}, RAs K W μ xs vs → ∃ as : List Addr, (∀ a ∈ as, ∃ k : Nat, n ≤ k ∧ μ[k]? = some a) ∧ ∀ W' : Hp, Same W W' → (∀ a ∈ as, W' a = H a) → RDs K W' ds vs := by
  induction z with
  | nil => exact fun {vs} r => ⟨[], (fun _ h => nomatch h), fun _ _ _ => r⟩
  | dat h ih =>
    rintro vs ⟨v, r, rfl, h1, h2⟩
    obtain ⟨as, a1, a2⟩ := ih h2
    exact ⟨as, a1, fun W' e q => ⟨v, r, rfl, RD.mono e h1, a2 W' e q⟩⟩
  | @lst k L l ds hn hk h ih =>
    rintro vs ⟨v, r, rfl, ⟨a, ha, rfl⟩, h2⟩
    obtain ⟨us, u1, u2⟩ := s.ob k a _ ha hk
    obtain ⟨as, a1, a2⟩ := ih h2
    refine ⟨a :: as, fun b hb => ?_, fun W' e q => ⟨_, r, rfl, ⟨a, us, rfl, by rw [q a List.mem_cons_self]; exact u1, RDs.mono e u2⟩, a2 W' e fun b hb => q b (List.mem_cons_of_mem _ hb)⟩⟩
    rcases List.mem_cons.mp hb with rfl | hb
    · exact ⟨k, hn, ha⟩
    · exact a1 b hb
theorem FrzL.len {n : Nat} {xs : List AV} {ds : List D} (z : FrzL n M xs ds) : xs.length = ds.length := by
  induction z with
  | nil => rfl
  | dat h ih => rw [List.length_cons, List.length_cons, ih]
  | lst _ _ h ih => rw [List.length_cons, List.length_cons, ih]
end
end Al
namespace Dt
open PySem PySem.Spec PyProof.Rows L2
section
variable {prog : Program} {w : World} {κ : Type} [DecidableEq κ] {knd : HeapKind prog w κ} {A : Around} {E : Value → Shared → Prop} {s : Shared}
/-- dict(d): what stands in d, in a new dict -/
theorem call_dictH {o : Addr} {xs : List (κ × Addr × Value)} {Q : Value → Shared → Prop} (hu : knd.room A.in1.in1) (ho1 : (o == sysModules) = false) (ho : s.heap.DictOfH knd o xs) (hz : xs.length ≤ sizeLine)
    (ty : ∀ x ∈ xs, s.TypeIs (.ref x.2.1) "tuple") (ap : (xs.map fun x => knd.hash x.1).Nodup) (st : ∀ h', (∀ b q, s.heap.get? b = some q → h'.get? b = some q) → ∀ x ∈ xs, knd.is h' x.1 x.2.1)
    (h : ∀ h', h'.DictOfH knd s.heap.objs.size xs → (∀ b q, s.heap.get? b = some q → h'.get? b = some q) → Q (.ref s.heap.objs.size) { s with heap := h' }) : wpAny (model prog w) A (call (.type "dict") [.ref o]) Q E s := by
  let h1 : Heap := s.heap.push { cls := .type "dict", data := .dict #[] }
  have up : ∀ b q, s.heap.get? b = some q → h1.get? b = some q := fun b q e => Heap.get?_push_of_some _ e
  refine callType_codes (Q₁ := fun obj s₁ => obj = .ref s.heap.objs.size ∧ s₁ = { s with heap := h1 }) PySem.F.kt_called_dict (PySem.F.kt_typeCall_dict_1 _) PySem.F.entry_dict_init (kt_code_dict_new _ ⟨rfl, rfl⟩) ?_
  rintro obj s₁ ⟨rfl, rfl⟩
  have d0 : h1.DictOfH knd s.heap.objs.size [] := Heap.DictOfH.new s.heap
  have nd := ho.nodup
  obtain ⟨oo, es, ep, g1, g2, g3, g4, g5, g6⟩ := ho
  have hne : s.heap.objs.size ≠ o := fun e => Nat.lt_irrefl _ (e ▸ Heap.lt_size g1)
  have d1 : h1.DictOfH knd o xs := ⟨oo, es, ep, up _ _ g1, g2, g3, g4, st h1 up, g6⟩
  refine ⟨Heap.DictOfH.typeIs (s := { s with heap := h1 }) d0, PySem.F.args_dict_init_2 _ _, ?_⟩
  unfold Builtin.«dict.__init__» Builtin.Dict.selfAndRest
  refine wpAny_bind (wpAny_bind (wpAny_notOrdered_dict (Heap.DictOfH.typeIs (s := { s with heap := h1 }) d0) ?_))
  show wpAny _ _ (pure (s.heap.objs.size, [Value.ref o])) _ _ _
  refine wpAny_pure ?_
  show wpAny _ _ (Builtin.Dict.updateFrom "dict.__init__" s.heap.objs.size (.ref o) [] .none) _ _ _
  refine updateFrom_dictH (s := { s with heap := h1 }) .none hu hne ho1 d0 d1 (.inr ⟨fun x hx => ?_, ap⟩) (by simpa using hz) fun h2 e2 _ e4 => ⟨rfl, h h2 ?_ fun b q e => ?_⟩
  · obtain ⟨q, e, c⟩ := ty x hx
    exact ⟨q, up _ _ e, c⟩
  · rw [storedAllH_nil_of_nodup xs nd] at e2
    exact e2
  · exact (e4.2 b (Nat.ne_of_lt (Heap.lt_size e))).trans (up b q e)
/-- two dicts that hold the same at the same keys -/
theorem same_H {nm : String} {a b : Addr} {xs ys : List (κ × Addr × Value)} {Q : Bool → Shared → Prop} (hu : knd.room A) (ha : (a == sysModules) = false) (hb : (b == sysModules) = false) (da : s.heap.DictOfH knd a xs) (db : s.heap.DictOfH knd b ys)
    (hl : xs.length = ys.length) (hv : ∀ x ∈ xs, ∃ (j : Nat) (p : Addr × Value), ys[j]? = some (x.1, p) ∧ SeqAt.EqP prog w A s x.2.2 p.2 true) (h : Q true s) : wpAny (model prog w) A (Builtin.Dict.samePairs nm a b) Q E s := by
  obtain ⟨oa, ea, na, a1, _, a3, a4, a5, _⟩ := da
  obtain ⟨ob, eb, nb, b1, _, b3, b4, b5, b6⟩ := db
  have la := size_of_entries a4
  have lb := size_of_entries b4
  have hs : ea.size = eb.size := by omega
  unfold Builtin.Dict.samePairs Builtin.Dict.showsAll
  rw [ha, hb]
  simp only [Bool.false_eq_true, if_false]
  refine wpAny_bind (wpAny_pure (wpAny_bind (wpAny_pure (wpAny_bind (wpAny_dictEntries a1 a3 (wpAny_bind (wpAny_dictEntries b1 b3 ?_)))))))
  rw [if_neg (by rw [hs]; simp)]
  refine wpAny_bind (wpAny_dictEpoch a1 a3 (wpAny_bind ?_))
  rw [Std.Legacy.Range.forIn_eq_forIn_range']
  simp only [Std.Legacy.Range.size, Nat.sub_zero, Nat.add_sub_cancel, Nat.div_one]
  refine wpAny_forIn_list _ (fun rest r s' => s' = s ∧ r = (none, ()) ∧ ∀ i ∈ rest, i < ea.size) _ ?_ ?_ _ _ ⟨rfl, rfl, fun i hi => by simpa using hi⟩
  · rintro i rest r s' ⟨rfl, rfl, hi⟩
    have hlt := hi i List.mem_cons_self
    obtain ⟨x, hx⟩ : ∃ x, xs[i]? = some x := ⟨xs[i]'(by omega), List.getElem?_eq_getElem _⟩
    obtain ⟨j, p, hj, he⟩ := hv x (List.mem_of_getElem? hx)
    refine wpAny_bind (wpAny_dictEntries a1 a3 ?_)
    rw [entry_at a4 i, hx]
    show wpAny _ _ (holding [.ref x.2.1, x.2.2] _ >>= _) _ _ _
    refine wpAny_bind (wpAny_holding (wpAny_bind (wpAny_dictFind_heap hu (a5 x (List.mem_of_getElem? hx)) b1 b3 b4 b5 b6 (fun hn => absurd hj (hn j p)) fun j' p' hj' => ?_)))
    obtain rfl := idxH_unique b6 hj hj'
    obtain rfl : p = p' := by
      rw [hj] at hj'
      exact (Prod.mk.inj (Option.some.inj hj')).2
    refine wpAny_bind (wpAny_dictEntries b1 b3 ?_)
    rw [entry_at b4 j, hj]
    show wpAny _ _ (holding [p.2] (eqBool x.2.2 p.2)) _ _ _
    refine wpAny_holding (he _ _ ?_)
    show wpAny _ _ (if (!true) = true then _ else _) _ _ _
    rw [if_neg (by decide)]
    refine wpAny_bind (wpAny_dictEpoch a1 a3 ?_)
    rw [if_neg (by simp)]
    exact wpAny_pure ⟨rfl, rfl, fun k hk => hi k (List.mem_cons_of_mem _ hk)⟩
  · rintro r s' ⟨rfl, rfl, _⟩
    exact wpAny_pure h
end
/-- the hash of a key of two numbers -/
def hash2 (c : Int × Int) : Int := reduceHash (Builtin.Tuple.tupleHashOf [hashInt c.1, hashInt c.2])
theorem KT.fst {H : Hp} : ∀ {kvs : List (List Key × V)} {xs : List (List Key × Addr × Value)}, KT H kvs xs → xs.map Prod.fst = kvs.map Prod.fst
  | _, _, .nil => rfl
  | _, _, .cons h t => by rw [List.map_cons, List.map_cons, KT.fst t, h.1]
theorem KT.get {H : Hp} : ∀ {kvs : List (List Key × V)} {xs : List (List Key × Addr × Value)} {x : List Key × Addr × Value} {i : Nat}, KT H kvs xs → xs[i]? = some x → ∃ p, kvs[i]? = some p ∧ p.1 = x.1 ∧ H x.2.1 = some (.tup (x.1.map kV)) ∧ RelV p.2 x.2.2
  | _, _, x, i, .nil, h => by rw [List.getElem?_nil] at h; cases h
  | _, _, x, 0, .cons (a := p) h t, e => by cases e; exact ⟨p, rfl, h.1, h.1 ▸ h.2.1, h.2.2⟩
  | _, _, x, i + 1, .cons h t, e => KT.get (i := i) t e
theorem KT.at {H : Hp} : ∀ {kvs : List (List Key × V)} {xs : List (List Key × Addr × Value)} {p : List Key × V} {i : Nat}, KT H kvs xs → kvs[i]? = some p → ∃ x, xs[i]? = some x ∧ p.1 = x.1 ∧ RelV p.2 x.2.2
  | _, _, x, i, .nil, h => by rw [List.getElem?_nil] at h; cases h
  | _, _, x, 0, .cons (b := q) h t, e => by cases e; exact ⟨q, rfl, h.1, h.2.2⟩
  | _, _, x, i + 1, .cons h t, e => KT.at (i := i) t e
section
variable {X : Cx}
/-- dict(d), the keys pairs of numbers of unlike hashes -/
def rDictT : List V → Hp → VK → Prop := fun vs H Q => ∃ (a : Addr) (kvs : List (List Key × V)) (ps : List (Int × Int)), vs = [.ref a] ∧ Rd H a (.dT kvs) ∧ kvs.map Prod.fst = ps.map key2 ∧ (ps.map hash2).Nodup ∧ ∀ p, H p = none → Q (.ref p) (upd H p (.dT kvs))
theorem k_dictT (hu : X.A.in1.units + 1 < cLine) : CallR X (.type "dict") rDictT := by
  intro pins s σ H vs us Q I rs h
  obtain ⟨a, kvs, ps, rfl, e, hk, hap, q⟩ := h
  obtain ⟨u, rfl, rx⟩ := vals1 rs
  obtain rfl : u = Value.ref a := rx
  obtain ⟨z, hd, xs, rel, dd⟩ := dt_rd I.hok e
  have hty : ∀ x ∈ xs, ∃ H0 : H x.2.1 = some (.tup (x.1.map kV)), True := fun x hx => by
    obtain ⟨i, hi⟩ := List.mem_iff_getElem?.mp hx
    obtain ⟨p, _, _, h, _⟩ := KT.get rel hi
    exact ⟨h, trivial⟩
  refine call_dictH (tupleKind_room_in1 hu) hd dd (by rw [← Paired.length rel]; exact z) (fun x hx => (key_of I.hok (hty x hx).1).typeIs) ?_ (fun h' k x hx => let ⟨o, it, n, g, r⟩ := key_of I.hok (hty x hx).1; ⟨o, it, n, k _ _ g, r⟩) fun h' d' k => ?_
  · have e : (xs.map fun x => (tupleKind (mixKind X.prog X.w)).hash x.1) = ps.map hash2 := by
      rw [show (fun x : List Key × Addr × Value => (tupleKind (mixKind X.prog X.w)).hash x.1) = (tupleKind (mixKind X.prog X.w)).hash ∘ Prod.fst from rfl, ← List.map_map, KT.fst rel, hk, List.map_map]
      rfl
    rw [e]
    exact hap
  · obtain ⟨oo, es, ep, g1, g2, g3, g4, _, g6⟩ := d'
    refine ⟨.ref s.heap.objs.size, upd H s.heap.objs.size (.dT kvs), I.laid (t' := s.toks) k (Nat.le_refl _) ⟨z, beq_eq_false_iff_ne.mpr (Ne.symm (Nat.ne_of_lt I.big)), xs, rel.keeps fun b ys hb => ?_, oo, es, ep, g1, g2, g3, g4, g6⟩, rfl, q _ (I.hok.fresh (Nat.le_refl _))⟩
    rw [upd_ne (ne_of_none hb (I.hok.fresh (Nat.le_refl _)))]
    exact hb
/-- d != e, the same in both -/
def rNeT : R2 := fun x y H Q => ∃ a b kvs, x = .ref a ∧ y = .ref b ∧ Rd H a (.dT kvs) ∧ Rd H b (.dT kvs) ∧ (∀ p ∈ kvs, flatB p.2 = true) ∧ Q (.bl false) H
theorem op_neDT (hu : X.A.units + 1 < cLine) : OpR X (compareOp .NotEq) rNeT := by
  intro pins s σ H x y v u Q I rx ry h
  obtain ⟨a, b, kvs, rfl, rfl, ea, eb, hf, q⟩ := h
  obtain rfl : v = Value.ref a := rx
  obtain rfl : u = Value.ref b := ry
  obtain ⟨_, ha, xs, ra, da⟩ := dt_rd I.hok ea
  obtain ⟨_, hb, ys, rb, db⟩ := dt_rd I.hok eb
  refine wpAny_richCompare_same_room (op := .NotEq) da.typeIs db.typeIs PySem.F.slot_dict_ne (wpAny_call_entry PySem.F.slot_dict_ne da.typeIs PySem.F.entry_dict_ne ?_ (PySem.F.args_dict_ne_2 _ _)) (by omega)
  show wpAny _ _ (Builtin.Dict.dictSlotArgs "__ne__" ⟨[.ref a, .ref b], []⟩ >>= _) _ _ s
  unfold Builtin.Dict.dictSlotArgs
  refine wpAny_bind (wpAny_bind (wpAny_notOrdered_dict da.typeIs ?_))
  show wpAny _ _ (pure (Value.ref a, Value.ref b)) _ _ s
  refine wpAny_pure (wpAny_bind (wpAny_isInstance (T := "dict") db.typeIs PySem.F.sub_dict_dict ?_))
  simp only [Bool.not_true, Bool.false_eq_true, if_false]
  refine wpAny_bind (wpAny_pure (wpAny_bind (wpAny_pure (wpAny_bind (same_H (tupleKind_room_in1 hu) ha hb da db (by rw [← Paired.length ra, ← Paired.length rb]) (fun x hx => ?_) ?_)))))
  · obtain ⟨i, hi⟩ := List.mem_iff_getElem?.mp hx
    obtain ⟨p, hp, e1, _, r1⟩ := KT.get ra hi
    obtain ⟨z, hz, e2, r2⟩ := KT.at rb hp
    exact ⟨i, z.2, by rw [hz, ← e1, e2], (eqAt_same r1 r2 (hf p (List.mem_of_getElem? hp))).eqP⟩
  · exact wpAny_pure ⟨_, rfl, (fun x => nomatch x), fin_bl I q rfl⟩
end
end Dt
namespace Nd
abbrev Cell := Int × Int
inductive NeedC (ear : Int → List Int) (kn : Cell → Bool) (cells : List Cell) : Cell → Prop
  | base {c : Cell} (h : c ∈ cells) : NeedC ear kn cells c
  | step {c : Cell} {j : Int} (h : NeedC ear kn cells c) (hk : kn c = false) (hj : j ∈ ear c.1) : NeedC ear kn cells (j, c.2 - 1)
/-- the cells that a cell hears -/
def hearC (ear : Int → List Int) (c : Cell) : List Cell := (ear c.1).map fun j => (j, c.2 - 1)
section
variable {n : Nat} {ear : Int → List Int} {kn : Cell → Bool} {cells : List Cell}
structure WalkI (ear : Int → List Int) (kn : Cell → Bool) (cells fs ws ex : List Cell) : Prop where
  nf : fs.Nodup
  nw : ws.Nodup
  sub : ∀ c ∈ ws, c ∈ fs
  need : ∀ c ∈ fs, NeedC ear kn cells c
  all : ∀ c ∈ cells, c ∈ fs
  cl : ∀ c ∈ fs, c ∉ ws → kn c = false → ∀ d ∈ hearC ear c, d ∈ fs
  nx : ex.Nodup
  exs : ∀ c ∈ ex, c ∈ fs
  exn : ∀ c ∈ ex, NeedC ear kn cells c ∧ kn c = false ∧ c ∉ ws
  few : fs.length ≤ cells.length + 3 * ex.length
theorem WalkI.done {fs ex : List Cell} (h : WalkI ear kn cells fs [] ex) (c : Cell) : c ∈ fs ↔ NeedC ear kn cells c := by
  refine ⟨h.need c, fun hc => ?_⟩
  induction hc with
  | base hm => exact h.all _ hm
  | step _ hk hj ih => exact h.cl _ ih (by simp) hk _ (List.mem_map.mpr ⟨_, hj, rfl⟩)
theorem WalkI.more {fs ws ex : List Cell} {c : Cell} (hne : ∀ k, (ear k).Nodup) (h3 : ∀ k, (ear k).length ≤ 3) (h : WalkI ear kn cells fs (ws ++ [c]) ex) (hk : kn c = false) :
    WalkI ear kn cells (fs ++ (hearC ear c).filter fun d => decide (d ∉ fs)) (ws ++ (hearC ear c).filter fun d => decide (d ∉ fs)) (ex ++ [c]) := by
  obtain ⟨n1, n2, n3⟩ := List.nodup_append.mp h.nw
  have hcf : c ∈ fs := h.sub c (by simp)
  have nh : (hearC ear c).Nodup := by
    unfold hearC
    refine List.pairwise_map.mpr ((hne c.1).imp fun {a b} hab e => hab ?_)
    exact (Prod.mk.inj e).1
  have nn : ((hearC ear c).filter fun d => decide (d ∉ fs)).Nodup := nh.filter _
  have out : ∀ d ∈ (hearC ear c).filter (fun d => decide (d ∉ fs)), d ∉ fs := fun d hd => of_decide_eq_true (List.mem_filter.mp hd).2
  have hl : ((hearC ear c).filter fun d => decide (d ∉ fs)).length ≤ 3 := Nat.le_trans (List.length_filter_le _ _) (by unfold hearC; rw [List.length_map]; exact h3 c.1)
  have cw : c ∉ ws := fun hm => n3 c hm c (by simp) rfl
  refine ⟨List.nodup_append.mpr ⟨h.nf, nn, fun a ha b hb e => out b hb (e ▸ ha)⟩, List.nodup_append.mpr ⟨n1, nn, fun a ha b hb e => out b hb (e ▸ h.sub a (List.mem_append_left _ ha))⟩, fun d hd => ?_, fun d hd => ?_, fun d hd => List.mem_append_left _ (h.all d hd), fun d hd hw hkd e he => ?_, List.nodup_append.mpr ⟨h.nx, by simp, fun a ha b hb e => ?_⟩, fun d hd => ?_, fun d hd => ?_, ?_⟩
  · rcases List.mem_append.mp hd with hd | hd
    · exact List.mem_append_left _ (h.sub d (List.mem_append_left _ hd))
    · exact List.mem_append_right _ hd
  · rcases List.mem_append.mp hd with hd | hd
    · exact h.need d hd
    · obtain ⟨j, hj, rfl⟩ := List.mem_map.mp (List.mem_filter.mp hd).1
      exact .step (h.need c hcf) hk hj
  · rcases List.mem_append.mp hd with hd | hd
    · by_cases ed : d = c
      · subst ed
        by_cases hf : e ∈ fs
        · exact List.mem_append_left _ hf
        · exact List.mem_append_right _ (List.mem_filter.mpr ⟨he, decide_eq_true hf⟩)
      · refine List.mem_append_left _ (h.cl d hd (fun hm => ?_) hkd e he)
        rcases List.mem_append.mp hm with hm | hm
        · exact hw (List.mem_append_left _ hm)
        · exact ed (List.mem_singleton.mp hm)
    · exact absurd (List.mem_append_right _ hd) hw
  · rw [List.mem_singleton.mp hb] at e
    subst e
    exact (h.exn a ha).2.2 (by simp)
  · rcases List.mem_append.mp hd with hd | hd
    · exact List.mem_append_left _ (h.exs d hd)
    · rw [List.mem_singleton.mp hd]; exact List.mem_append_left _ hcf
  · rcases List.mem_append.mp hd with hd | hd
    · obtain ⟨a, b, e⟩ := h.exn d hd
      refine ⟨a, b, fun hm => ?_⟩
      rcases List.mem_append.mp hm with hm | hm
      · exact e (List.mem_append_left _ hm)
      · exact out d hm (h.exs d hd)
    · rw [List.mem_singleton.mp hd]
      refine ⟨h.need c hcf, hk, fun hm => ?_⟩
      rcases List.mem_append.mp hm with hm | hm
      · exact cw hm
      · exact out c hm hcf
  · rw [List.length_append, List.length_append, List.length_singleton]
    have := h.few
    omega
end
end Nd
namespace Al
open PySem PySem.Spec PyProof.Rows L2 Gx Lm Cb NdefX Dt Nd
variable [Al.TabList]
theorem pures_pairs : ∀ ps : List Cell, D.pures (ps.map pk) = true
  | [] => rfl
  | n :: ns => by show (D.pure (pk n) && D.pures (ns.map pk)) = true; rw [pures_pairs ns]; rfl
theorem toPs_pairs : ∀ ps : List Cell, toPs (ps.map pk) = ps.map fun p => .tuple [.int p.1, .int p.2]
  | [] => by simp [toPs]
  | p :: ps => by
    show toP (pk p) :: toPs (ps.map pk) = _
    rw [toPs_pairs ps]
    simp [toP, key2, keyP]
theorem lay_pairs : ∀ ps : List Cell, PyData.canLayAll0 (toPs (ps.map pk)) = true ∧ PyData.depthAll (toPs (ps.map pk)) ≤ 1 := fun ps => by
  rw [toPs_pairs]
  induction ps with
  | nil => exact ⟨by simp [PyData.canLayAll0], by simp [PyData.depthAll]⟩
  | cons p ps ih =>
    obtain ⟨h1, h2⟩ := ih
    constructor
    · simp only [List.map_cons, PyData.canLayAll0, PyData.canLay0, h1, Bool.and_true]
    · simp only [List.map_cons, PyData.depthAll, PyData.depth, Nat.max_self, Nat.zero_add]
      omega
theorem shaped_pairs (ps : List Cell) : SeqAt.shaped (.list (toPs (ps.map pk))) = true := by
  obtain ⟨h1, h2⟩ := lay_pairs ps
  unfold SeqAt.shaped
  rw [Bool.and_eq_true]
  exact ⟨h1, decide_eq_true (show PyData.depthAll (toPs (ps.map pk)) + 1 ≤ 64 by omega)⟩
theorem eqv_pairs : ∀ as bs : List Cell, PyData.eqvAll (toPs (as.map pk)) (toPs (bs.map pk)) = decide (as = bs) := fun as bs => by
  rw [toPs_pairs, toPs_pairs]
  induction as generalizing bs with
  | nil => cases bs <;> simp [PyData.eqvAll]
  | cons a as ih =>
    cases bs with
    | nil => simp [PyData.eqvAll]
    | cons b bs =>
      simp only [List.map_cons, PyData.eqvAll, PyData.eqv, ih, Bool.and_true]
      by_cases h : a = b
      · subst h; simp
      · rw [decide_eq_false (show ¬ (a :: as = b :: bs) from fun e => h (List.cons.inj e).1)]
        by_cases h1 : a.1 = b.1
        · have h2 : a.2 ≠ b.2 := fun e => h (Prod.ext h1 e)
          simp [h2]
        · simp [h1]
/-- a list of pairs, frozen or not -/
inductive LP (M : List MO) : AV → List Cell → Prop
  | d (ns : List Cell) : LP M (.d (.lst (ns.map pk))) ns
  | m {k : Nat} {ns : List Cell} (h : M[k]? = some (.lst (ns.map pk))) : LP M (.m k) ns
section
variable {B : Base} {K : PySem.W.Frag} {σ : AEnv} {M : List MO} {x y : AV} {ta tb : TE} {Φ : AV → List MO → Prop}
theorem LP.pv {ns : List Cell} (h : LP M x ns) : PV M x (.list (toPs (ns.map pk))) := by
  cases h with
  | d ns => exact .d (x := .lst (ns.map pk)) (pures_pairs ns)
  | m h => exact .mm h (pures_pairs ns)
theorem ur_neLP {as bs : List Cell} (hx : LP M x as) (hy : LP M y bs) (k : Φ (.d (.bl (!decide (as = bs)))) M) : AR B K (uNe K) x y M Φ :=
  ur_neP hx.pv hy.pv (shaped_pairs as) (shaped_pairs bs) (by simp only [PyData.eqv]; rw [eqv_pairs]; exact k)
def fD (v : D) (fs : List Cell) : KD := fs.map fun c => (key2 c, v)
theorem fD_len {v : D} {fs : List Cell} : (fD v fs).length = fs.length := by unfold fD; rw [List.length_map]
theorem fD_keys {v : D} {fs : List Cell} : (fD v fs).map Prod.fst = fs.map key2 := by unfold fD; rw [List.map_map]; rfl
theorem fD_in {v : D} (fs : List Cell) (c : Cell) : (valG (fD v fs) (key2 c)).isSome = decide (c ∈ fs) := by
  unfold valG fD
  rw [Option.isSome_map]
  induction fs with
  | nil => simp
  | cons p l ih =>
    rw [List.map_cons, List.find?_cons]
    by_cases e : p = c
    · subst e
      rw [decide_eq_true rfl]
      simp
    · rw [decide_eq_false (fun z => e (key2_inj z))]
      show (List.find? _ _).isSome = _
      rw [ih]
      have : ¬ c = p := fun z => e z.symm
      simp [this]
theorem fD_put {v : D} (fs : List Cell) (c : Cell) : putG (fD v fs) (key2 c) v = if c ∈ fs then fD v fs else fD v (fs ++ [c]) := by
  unfold putG
  have ea : ((fD v fs).any fun kv => decide (kv.1 = key2 c)) = decide (c ∈ fs) := by
    rw [← fD_in (v := v)]
    unfold valG
    rw [Option.isSome_map, List.isSome_find?]
  rw [ea]
  by_cases h : c ∈ fs
  · rw [if_pos (decide_eq_true h), if_pos h]
    conv => rhs; rw [← List.map_id (fD v fs)]
    refine List.map_congr_left fun p hp => ?_
    unfold fD at hp
    obtain ⟨d, hd, rfl⟩ := List.mem_map.mp hp
    show (if key2 d = key2 c then (key2 d, v) else (key2 d, v)) = _
    rw [ite_self]
    rfl
  · rw [if_neg (by rw [decide_eq_false h]; exact Bool.false_ne_true), if_neg h]
    unfold fD
    rw [List.map_append]
    rfl
/-- k not in d -/
theorem ar_inF2 {v : D} {neg : Bool} {k : Nat} {fs : List Cell} {c : Cell} (hm : M[k]? = some (dM (fD v fs))) (q : Φ (.d (.bl (if neg then !decide (c ∈ fs) else decide (c ∈ fs)))) M) : AR B K (rInD neg) (.d (pk c)) (.m k) M Φ := by
  refine ar_inM hm ?_
  rw [fD_in]
  exact q
/-- a lambda that asks is_known -/
theorem sent_dict {asp : ASp} {k : Nat} {kvs : KD} {x : D} {Ψ : Exc → List MO → Prop} (hm : M[k]? = some (dM kvs)) (h : asp [.d x, .m 0] [dM kvs] (fun y M' => M' = [dM kvs] ∧ ∃ d, y = .d d ∧ Φ (.d d) M) (fun _ _ => False)) (mono : Mono asp) : Sent asp [.d x, .m k] M Φ Ψ := by
  have hk := (List.getElem?_eq_some_iff.mp hm).1
  have hs : subK M [k] = [dM kvs] := by
    unfold subK
    rw [List.map_cons, List.map_nil, List.getD, hm]
    rfl
  have hz : (dM kvs).isD = true := by
    show (kvs.map fun p => AV.d p.2).all AV.isD = true
    rw [List.all_map]
    exact List.all_eq_true.mpr fun _ _ => rfl
  refine ⟨[k], [.d x, .m 0], by simp, by simp [hk], ?_, rfl, rfl, ?_⟩
  · rw [List.all_cons, List.all_nil, Bool.and_true, List.getD, hm]
    exact hz
  · rw [hs]
    refine mono _ _ _ _ _ _ (fun y M' ⟨e1, d, e2, p⟩ => ?_) (fun _ _ z => z.elim) h
    subst e1; subst e2
    refine ⟨[dM kvs], [], rfl, rfl, ?_⟩
    have e3 : renO M.length [k] (dM kvs) = dM kvs := by
      have : (kvs.map fun p => AV.d p.2).map (renV M.length [k]) = kvs.map fun p => AV.d p.2 := by rw [List.map_map]; rfl
      exact congrArg (MO.dT (kvs.map Prod.fst)) this
    show Φ (.d d) (putK M [k] [renO M.length [k] (dM kvs)] ++ [])
    rw [e3, List.append_nil]
    show Φ (.d d) (putK M [k] [dM kvs])
    unfold putK
    unfold putK
    rw [show M.set k (dM kvs) = M from ?_]
    · exact p
    · obtain ⟨_, e⟩ := List.getElem?_eq_some_iff.mp hm
      rw [← e]
      exact List.set_getElem_self hk
end
end Al
namespace Al
open PySem PySem.Spec PyProof.Rows L2 Gx Lm Cb NdefX Dt
variable [Al.TabList]
section
variable {B : Base} {K : PySem.W.Frag} {σ : AEnv} {M : List MO} {te : TE} {x y : AV} {Φ : AV → List MO → Prop}
/-- a dict is locked, and told -/
theorem as_retLock {Φ : AEnds} (h : AE B K te σ M fun x M1 => ∃ M0 kvs, x = .m M0.length ∧ M1 = M0 ++ [dM kvs] ∧ B.μ0.length ≤ M0.length ∧ (∀ o ∈ M0, o.below M0.length = true) ∧ Φ.rt (.d (dD kvs)) M0) : AS B K (tRet (tLockV te)) σ M Φ := fun W μ H τ o s e E f =>
  h W μ H τ o s e _ fun x M1 W1 μ1 H1 v ⟨M0, kvs, e1, e2, hB, hb, p⟩ f1 r1 => by
    subst e1; subst e2
    obtain ⟨a, ha, rfl⟩ := r1
    obtain ⟨cvs, h1, h2⟩ := dM_at f1.sim ha (by rw [List.getElem?_append_right (Nat.le_refl _), Nat.sub_self]; rfl)
    refine ⟨a, _, rfl, h1, trivial, fun od => ?_⟩
    have tk : (M0 ++ [dM kvs]).take M0.length = M0 := List.take_left
    have g := go_lock (u' := .frz od (.dT cvs)) (Go.base f1.ok f1.sim) hB hB (by rw [tk]; exact hb) (Nat.le_refl _) ha h1
    rw [tk] at g
    have wa : W1 a = none := f1.sim.out a (List.mem_of_getElem? ha)
    obtain ⟨e3, e4⟩ := (h2.mono (same_upd (o := .frz od (.dT cvs)) wa)).back
    exact f.rt _ _ _ _ _ _ p g ⟨a, cvs.map Prod.snd, od, rfl, by rw [← e3]; exact upd_same, by rw [List.length_map, List.length_map], e4⟩
/-- l + m, a new list that may change -/
theorem ur_addLM {l m : List D} (h : SL M x l) (h' : SL M y m) (hz : l.length + m.length ≤ sizeLine) (k : Φ (.m M.length) (M ++ [.lst (l ++ m)])) : AR B K (uAdd K) x y M Φ := fun W μ H u w o s hu hw Q q => by
  obtain ⟨a, vs, rfl, h1, h2⟩ := h.run s hu
  obtain ⟨b, ws, rfl, h3, h4⟩ := h'.run s hw
  refine .inr (.inl ⟨a, b, vs, ws, rfl, rfl, h1, h3, by rw [← h2.length, ← h4.length]; exact hz, fun p hp => ?_⟩)
  have g := go_mut (mo := .lst (l ++ m)) (u := .lst (vs ++ ws)) o s hp ⟨_, upd_same, h2.append h4⟩
  refine q _ _ _ _ _ _ k g ⟨p, ?_, rfl⟩
  rw [← s.len, List.getElem?_append_right (Nat.le_refl _), Nat.sub_self]; rfl
/-- dict(d), keys of unlike hashes -/
theorem uc_dictT {kvs : KD} {ps : List (Int × Int)} (hk : kvs.map Prod.fst = ps.map key2) (hp : (ps.map hash2).Nodup) (h : DV M x kvs) (k : Φ (.m M.length) (M ++ [dM kvs])) : AC B K rDictT [x] M Φ := fun W μ H us o s r Q q => by
  obtain ⟨v, rfl, r'⟩ := ra_one r
  obtain ⟨a, cvs, rfl, h1, h2⟩ := h.run s r'
  have hf : cvs.map Prod.fst = kvs.map Prod.fst := by
    have := (h2.back).1
    rw [this, List.map_fst_zip]
    rw [List.length_map, List.length_map, h2.len]; exact Nat.le_refl _
  refine ⟨a, cvs, ps, rfl, h1, hf.trans hk, hp, fun p hp => ?_⟩
  have g := go_mut (mo := dM kvs) (u := .dT cvs) o s hp (dM_ok upd_same h2)
  refine q _ _ _ _ _ _ k g ⟨p, ?_, rfl⟩
  rw [← s.len, List.getElem?_append_right (Nat.le_refl _), Nat.sub_self]; rfl
/-- d != e, the same intz in both -/
theorem ar_neDT {kvs : List (List Key × Int)} (h : DV M x (kvs.map fun p => (p.1, .int p.2))) (h' : DV M y (kvs.map fun p => (p.1, .int p.2))) (k : Φ (.d (.bl false)) M) : AR B K rNeT x y M Φ := fun W μ H u w o s hu hw Q q => by
  obtain ⟨a, cvs, rfl, h1, h2⟩ := h.run s hu
  obtain ⟨b, dvs, rfl, h3, h4⟩ := h'.run s hw
  have intz : ∀ {kvs : List (List Key × Int)} {cvs : List (List Key × V)}, RK K W (kvs.map fun p => (p.1, .int p.2)) cvs → cvs = kvs.map fun p => (p.1, .int p.2) := by
    intro kvs
    induction kvs with
    | nil => intro cvs r; cases cvs with
      | nil => rfl
      | cons _ _ => exact r.elim
    | cons p kvs ih => intro cvs r; cases cvs with
      | nil => exact r.elim
      | cons c cvs =>
        obtain ⟨r1, r2, r3⟩ := r
        obtain ⟨c1, c2⟩ := c
        have r1 : p.1 = c1 := r1
        have r2 : c2 = .int p.2 := r2
        rw [r2, ← r1, ih r3]; rfl
  obtain rfl := intz h2
  obtain rfl := intz h4
  exact ⟨a, b, _, rfl, rfl, h1, h3, fun p hp => by obtain ⟨z, _, rfl⟩ := List.mem_map.mp hp; rfl, q _ _ _ _ _ _ k (.refl o s) rfl⟩
/-- while, the objects that each turn makes stay -/
theorem as_whileG {c : TT} {tb : TS} {Φ : AEnds} (I : Nat → AEnv → List MO → Prop) (m0 : Nat) (h0 : I m0 σ M)
    (h : ∀ m σ' M', I m σ' M' → AT B K c σ' M' fun b M2 => (b = true → AS B K tb σ' M2 { nx := fun σ M => ∃ m', m' < m ∧ I m' σ M, ct := fun σ M => ∃ m', m' < m ∧ I m' σ M, bk := Φ.nx, rt := Φ.rt }) ∧ (b = false → Φ.nx σ' M2)) : AS B K (tWhile c tb) σ M Φ := fun W μ H τ o s e E f => by
  refine ⟨fun m τ' H' => ∃ σ' M' W' μ', I m σ' M' ∧ Go B K W μ W' μ' M' H' ∧ RE K W' μ' σ' τ', ⟨m0, σ, M, W, μ, h0, .refl o s, e⟩, ?_⟩
  rintro m τ' H' ⟨σ', M', W', μ', hi1, g1, e1⟩
  refine h m σ' M' hi1 W' μ' H' τ' g1.ok g1.sim e1 _ fun b M2 W2 μ2 H2 ⟨p1, p2⟩ f2 => ?_
  cases b with
  | false => exact iteF (f.nx _ _ _ _ _ _ (p2 rfl) (g1.trans f2) (f2.re e1))
  | true =>
    refine iteT ⟨fun τ3 H3 => ∃ m', m' < m ∧ ∃ σ' M' W' μ', I m' σ' M' ∧ Go B K W μ W' μ' M' H3 ∧ RE K W' μ' σ' τ3, fun τ3 H3 h => h, ?_⟩
    have turn : ∀ σ3 M3 W3 μ3 H3 τ3, (∃ m', m' < m ∧ I m' σ3 M3) → Go B K W2 μ2 W3 μ3 M3 H3 → RE K W3 μ3 σ3 τ3 → ∃ m', m' < m ∧ ∃ σ' M' W' μ', I m' σ' M' ∧ Go B K W μ W' μ' M' H3 ∧ RE K W' μ' σ' τ3 :=
      fun σ3 M3 W3 μ3 H3 τ3 ⟨m', hm', p3⟩ f3 e3 => ⟨m', hm', σ3, M3, W3, μ3, p3, (g1.trans f2).trans f3, e3⟩
    exact p1 rfl W2 μ2 H2 τ' f2.ok f2.sim (f2.re e1) _ ⟨fun σ3 M3 W3 μ3 H3 τ3 p3 f3 e3 => turn _ _ _ _ _ _ p3 f3 e3, f.rt, fun σ3 M3 W3 μ3 H3 τ3 p3 f3 e3 => f.nx _ _ _ _ _ _ p3 ((g1.trans f2).trans f3) e3, fun σ3 M3 W3 μ3 H3 τ3 p3 f3 e3 => turn _ _ _ _ _ _ p3 f3 e3⟩
end
theorem k_dictD {X : Cx} (hu : X.A.units + 64 < cLine) : CallR X (.type "dict") rDictT := k_dictT (by show X.A.units + 1 + 1 < cLine; omega)
theorem k_neDT {X : Cx} (hu : X.A.units + 64 < cLine) : OpR X (compareOp .NotEq) rNeT := op_neDT (by omega)
end Al
namespace Al
open PySem PySem.Spec PyProof.Rows L2 Gx Lm Cb NdefX Dt
end Al
namespace Al
open PySem PyProof.Rows L2
end Al
namespace Al
open PySem PySem.Spec PyProof.Rows L2 Gx Lm Cb NdefX Dt
end Al
namespace Al
open PySem PyProof.Rows L2 Gx RZ
variable [Al.TabList]
def zipD (l m : List D) : List D := (l.zip m).map fun p => .tup [p.1, p.2]
theorem zipD_get {l m : List D} {i : Nat} {d : D} (h : (zipD l m)[i]? = some d) : ∃ x y, l[i]? = some x ∧ m[i]? = some y ∧ d = .tup [x, y] := by
  unfold zipD at h
  rw [List.getElem?_map] at h
  obtain ⟨p, hp, rfl⟩ := Option.map_eq_some_iff.mp h
  obtain ⟨h1, h2⟩ := List.getElem?_zip_eq_some.mp hp
  exact ⟨p.1, p.2, h1, h2, rfl⟩
theorem zipD_len (l m : List D) : (zipD l m).length = min l.length m.length := by unfold zipD; rw [List.length_map, List.length_zip]
end Al
namespace Fq
open PySem PySem.Spec PyProof.Rows PySem.SeqAt Ow
open AutoSeq1 (wpAny_loadPart')
open MeetsSeq MeetsSeq2 MeetsSeq3 SeqRoads2
abbrev fnObj (od : Option Addr) (fd : FuncData) (sl : Array (Option Value)) : Obj := { cls := .type "function", dict := od, data := .func fd, slots := sl }
theorem s1 : isSubtype (.type "function") (.type "tuple") = pure false := by rw [isSubtype_type]; kernel_rfl
theorem t1 : isSubtype (.type "tuple") (.type "function") = pure false := by rw [isSubtype_type]; kernel_rfl
section
variable {prog : Program} {w : World} {A : Around} {E : Value → Shared → Prop} {s : Shared} {f : Addr} {od : Option Addr} {fd : FuncData} {sl : Array (Option Value)} {y : Value} {Q : Value → Shared → Prop}
theorem looks {M : Model} {h : Heap} {T : String} (hf : h.get? f = some (fnObj od fd sl)) (sub : isSubtype (.type "function") (.type T) = pure false) : PySem.W.Looks M h (isInstance (.ref f) (.type T)) false := fun A Q E s k q => by
  refine wpAny_bind (wpAny_typeOf_ref (k _ _ hf) ?_)
  exact wpAny_of_eq sub q
end
end Fq
namespace Al
open PySem PyProof.Rows L2 Ow
end Al
namespace Al
open PySem PyProof.Rows L2
variable [Al.TabList]
/-- the items of a[lo:hi] -/
def cutL {α : Type} (xs : List α) (lo hi : Option Int) : List α := (xs.drop (HT.sIx xs.length 0 lo)).take (HT.sIx xs.length xs.length hi - HT.sIx xs.length 0 lo)
theorem RDs.cut {K : PySem.W.Frag} {W : Hp} {l : List D} {vs : List V} (h : RDs K W l vs) (lo hi : Option Int) : RDs K W (cutL l lo hi) (cutV vs lo hi) := by
  unfold cutL cutV
  rw [h.length]
  exact RDs.take _ (RDs.drop _ h)
def AO (B : Base) (K : PySem.W.Frag) (tt : TO) (σ : AEnv) (M : List MO) (Φ : Option Int → List MO → Prop) : Prop := ∀ W μ H τ, Ok B W μ H → Sim K W μ M H → RE K W μ σ τ → ∀ Q : Option Int → Hp → Prop,
  (∀ b M' W' μ' H', Φ b M' → Go B K W μ W' μ' M' H' → Q b H') → tt τ H Q
section
variable {B : Base} {K : PySem.W.Frag} {σ : AEnv} {M : List MO} {to te : TE} {t ta : TA} {tl th : TO} {x y : AV} {Φ : AV → List MO → Prop}
theorem ao_none {Φ : Option Int → List MO → Prop} (h : Φ none M) : AO B K tNoPart σ M Φ := fun W μ H τ o s e Q q => q _ _ _ _ _ h (.refl o s)
theorem ao_some {Φ : Option Int → List MO → Prop} (h : AE B K te σ M fun x M1 => ∃ i, x = .d (.int i) ∧ Φ (some i) M1) : AO B K (tPart te) σ M Φ := fun W μ H τ o s e Q q =>
  h W μ H τ o s e _ fun x M1 W1 μ1 H1 v ⟨i, e1, p⟩ f1 r1 => by
    subst e1; cases r1
    exact ⟨i, rfl, q _ _ _ _ _ p f1⟩
/-- a list's slice -/
theorem ae_sliceL (h : AE B K te σ M fun x M1 => ∃ l, x = .d (.lst l) ∧ AO B K tl σ M1 fun lo M2 => AO B K th σ M2 fun hi M3 => Φ (.d (.lst (cutL l lo hi))) M3) : AE B K (tSl (uSl K) te tl th) σ M Φ := fun W μ H τ o s e Q q =>
  h W μ H τ o s e _ fun x M1 W1 μ1 H1 v ⟨l, e1, p⟩ f1 r1 => by
    subst e1
    refine p W1 μ1 H1 τ f1.ok f1.sim (f1.re e) _ fun lo M2 W2 μ2 H2 p2 f2 => p2 W2 μ2 H2 τ f2.ok f2.sim ((f1.trans f2).re e) _ fun hi M3 W3 μ3 H3 p3 f3 => .inl ?_
    obtain ⟨a, vs, rfl, h1, h2⟩ := r1
    have f23 := f2.trans f3
    refine ⟨a, vs, rfl, SqL.of (f3.sim.sub _ _ (f23.wext _ _ h1)), fun p hp => ?_⟩
    have g := go_new (u := .lst (cutV vs lo hi)) f3.ok f3.sim hp
    exact q _ _ _ _ _ _ p3 (f1.trans (f23.trans g)) ⟨p, _, rfl, upd_same, (RDs.mono (f23.trans g).wext h2).cut lo hi⟩
theorem as_par3 {i j k : Nat} {Φ : AEnds} (h : AA B K ta σ M fun xs M1 => ∃ x y z, xs = [x, y, z] ∧ Φ.nx (((σ.set i (some x)).set j (some y)).set k (some z)) M1) : AS B K (tPar3 i j k ta) σ M Φ := fun W μ H τ o s e E f =>
  h W μ H τ o s e _ fun xs M1 W1 μ1 H1 vs ⟨x, y, z, e1, p⟩ f1 r1 => by
    subst e1
    obtain ⟨v, r, rfl, r2, w, r', rfl, r3, u, r5, rfl, r6, r4⟩ := r1
    cases r4
    exact ⟨v, w, u, rfl, f.nx _ _ _ _ _ _ p f1 ((((f1.re e).set r2 i).set r3 j).set r6 k)⟩
end
end Al
namespace Al
open PySem PyProof.Rows L2 Ow Lm Gx
end Al
namespace Al
open PySem PyProof.Rows L2 Gx
variable [Al.TabList]
theorem cutL_lo {α : Type} (l : List α) (k : Nat) : cutL l none (some (k : Int)) = l.take k := by
  unfold cutL
  rw [HT.sIx_none, HT.sIx_nat, List.drop_zero, Nat.sub_zero]
  rcases Nat.le_total k l.length with h | h
  · rw [Nat.min_eq_left h]
  · rw [Nat.min_eq_right h, List.take_length, List.take_of_length_le h]
theorem cutL_hi {α : Type} (l : List α) (k : Nat) : cutL l (some (k : Int)) none = l.drop k := by
  unfold cutL
  rw [HT.sIx_none, HT.sIx_nat]
  rcases Nat.le_total k l.length with h | h
  · rw [Nat.min_eq_left h, List.take_of_length_le (by rw [List.length_drop]; exact Nat.le_refl _)]
  · rw [Nat.min_eq_right h, Nat.sub_self, List.take_zero, List.drop_of_length_le h]
end Al
namespace Sk
open PySem PySem.W PySem.Calls PyProof.Rows
def kd (two : Bool) (k : Int × Int) : PyData := match two with
  | true => .tuple [.int k.1, .int k.2]
  | false => .int k.1
end Sk
namespace Al
open PySem PyProof.Rows Gx Dt
open L2 hiding putK
end Al
namespace Al
open PySem PyProof.Rows Gx Dt
open L2 hiding putK
end Al
namespace Dt
open PySem PySem.Spec PyProof.Rows L2
abbrev dc2 (kx vx tg iter : Expr) (ifs : List Expr) (tg2 iter2 : Expr) (ifs2 : List Expr) (scope : Scope) (pos : Pos) : Expr := .DictComp kx vx [⟨tg, iter, ifs, 0⟩, ⟨tg2, iter2, ifs2, 0⟩] scope pos
theorem turn_dc2a (kx vx tg iter : Expr) (ifs : List Expr) (tg2 iter2 : Expr) (ifs2 : List Expr) (scope : Scope) (pos : Pos) (it : Value) (D : Addr) (env : Env) :
    compTurn (dc2 kx vx tg iter ifs tg2 iter2 ifs2 scope pos) 0 it (.ref D) env = (do
      standAt iter.pos
      match ← pyNext it with
      | none => pure (.done .next)
      | some v =>
        letOwnedTupleGo tg it v
        assign tg env v
        let mut ok := true
        for c in ifs do
          if ok then ok ← isTrue c env (eval c env)
        if ok then
          let x ← eval iter2 env
          standAt iter2.pos
          let x ← foldedSetIterable iter2 env x
          let _ ← runOwn (.compStart (dc2 kx vx tg iter ifs tg2 iter2 ifs2 scope pos) 1 (← holding [x] (pyIter x)) (.ref D) env) env
        again (.compLoop (dc2 kx vx tg iter ifs tg2 iter2 ifs2 scope pos) 0 it (.ref D) env)) := by rfl
theorem turn_dc2b (kx vx tg iter : Expr) (ifs : List Expr) (tg2 iter2 : Expr) (ifs2 : List Expr) (scope : Scope) (pos : Pos) (it : Value) (D : Addr) (env : Env) :
    compTurn (dc2 kx vx tg iter ifs tg2 iter2 ifs2 scope pos) 1 it (.ref D) env = (do
      standAt iter2.pos
      match ← pyNext it with
      | none => pure (.done .next)
      | some v =>
        letOwnedTupleGo tg2 it v
        assign tg2 env v
        let mut ok := true
        for c in ifs2 do
          if ok then ok ← isTrue c env (eval c env)
        if ok then
          (do
            let kv ← eval kx env
            let vv ← holding [kv] (eval vx env)
            standAt { kx.pos with endLine := vx.pos.endLine, endCol := vx.pos.endCol }
            holding [kv, vv] (dictSet D kv vv))
        again (.compLoop (dc2 kx vx tg iter ifs tg2 iter2 ifs2 scope pos) 1 it (.ref D) env)) := by rfl
section
variable {prog : Program} {w : World} {A : Around} {R : Result → Shared → Prop} {s : Shared} {kx vx tg iter tg2 iter2 : Expr} {ifs ifs2 : List Expr} {scope : Scope} {pos : Pos} {D : Addr} {env : Env}
/-- the inner loop -/
theorem loop_dc2b {it : Value} (I : Nat → Shared → Prop)
    (turn : ∀ n s, I n s → wpAny (model prog w) A (pyNext it) (fun r s1 => match r with
      | none => R (.ok .next) s1
      | some v => wpAny (model prog w) A (letOwnedTupleGo tg2 it v) (fun _ s1' => wpAny (model prog w) A (assign tg2 env v) (fun _ s2 =>
          wpAny (model prog w) A (forIn ifs2 true fun c r => if r = true then do let ok ← isTrue c env (eval c env); pure (ForInStep.yield ok) else pure (ForInStep.yield r)) (fun ok s3 =>
            if ok = true then wpAny (model prog w) A (eval kx env) (fun kv s4 => wpAny (model prog w) A (eval vx env) (fun vv s5 =>
              wpAny (model prog w) A (dictSet D kv vv) (fun _ s6 => ∃ m, m < n ∧ I m s6) (fun _ _ => False) s5) (fun _ _ => False) s4) (fun _ _ => False) s3
            else ∃ m, m < n ∧ I m s3) (fun _ _ => False) s2) (fun _ _ => False) s1') (fun _ _ => False) s1) (fun _ _ => False) s)
    (n : Nat) (h : I n s) :
    codeAny (model prog w) A (.compLoop (dc2 kx vx tg iter ifs tg2 iter2 ifs2 scope pos) 1 it (.ref D) env) R s := by
  refine codeAny_loop rfl I (fun n s hI => ?_) n h
  show wpAny _ A ((compTurn (dc2 kx vx tg iter ifs tg2 iter2 ifs2 scope pos) 1 it (.ref D) env).onRaise (fun x => do noteFrame x env; theTreesLotGoes x)) _ _ s
  refine wpAny_noted ?_
  rw [turn_dc2b]
  refine wpAny_bind (wpAny_standAt (wpAny_bind (thnF (turn n s hI) (fun r s1 h1 => ?_))))
  cases r with
  | none => exact wpAny_pure h1
  | some v =>
    refine wpAny_bind (thnF h1 (fun _ s1' h1' => ?_))
    refine wpAny_bind (thnF h1' (fun _ s2 h2 => wpAny_bind (thnF h2 (fun ok s3 h3 => ?_))))
    cases ok with
    | false => exact wpAny_pure ⟨rfl, h3⟩
    | true =>
      exact wpAny_bind (wpAny_bind (thnF h3 (fun kv s4 h4 => wpAny_bind (wpAny_holding (thnF h4 (fun vv s5 h5 => wpAny_bind (wpAny_standAt (wpAny_holding (thnF h5 (fun _ s6 h6 => wpAny_pure ⟨rfl, h6⟩))))))))))
theorem start_dc2b {it : Value} (h0 : codeAny (model prog w) A (.compLoop (dc2 kx vx tg iter ifs tg2 iter2 ifs2 scope pos) 1 it (.ref D) env) R s)
    (h : wpAny (model prog w) A (pyIter it) (fun i' s' => codeAny (model prog w) A (.compLoop (dc2 kx vx tg iter ifs tg2 iter2 ifs2 scope pos) 1 i' (.ref D) env) R s') (fun _ _ => False) s) :
    codeAny (model prog w) A (.compStart (dc2 kx vx tg iter ifs tg2 iter2 ifs2 scope pos) 1 it (.ref D) env) R s := by
  refine codeAny_of_tree ?_
  show wpAny _ A ((compStart (dc2 kx vx tg iter ifs tg2 iter2 ifs2 scope pos) 1 it (.ref D) env).onRaise (fun x => do noteFrame x env; standAt theWindowsPlace)) _ _ s
  refine wpAny_notedAt ?_
  unfold compStart
  show wpAny _ A (ask >>= _) _ _ s
  refine wpAny_bind (wpAny_askSetting (wpAny_ite ?_))
  split
  · first
      | exact wpAny_bind (wpAny_pure (wpAny_pure ⟨rfl, h0⟩))
      | exact wpAny_pure ⟨rfl, h0⟩
  · refine wpAny_bind (wpAny_rule ?_)
    show wpAny _ _ (standAt iter2.pos >>= _) _ _ s
    exact wpAny_bind (wpAny_standAt (wpAny_bind (thnF h (fun i' s' h' => wpAny_pure ⟨rfl, h'⟩))))
/-- the outer loop -/
theorem loop_dc2a {it : Value} (I : Nat → Shared → Prop) (hs : ∀ x, foldedSetIterable iter2 env x = pure x)
    (turn : ∀ n s, I n s → wpAny (model prog w) A (pyNext it) (fun r s1 => match r with
      | none => R (.ok .next) s1
      | some v => wpAny (model prog w) A (letOwnedTupleGo tg it v) (fun _ s1' => wpAny (model prog w) A (assign tg env v) (fun _ s2 =>
          wpAny (model prog w) A (forIn ifs true fun c r => if r = true then do let ok ← isTrue c env (eval c env); pure (ForInStep.yield ok) else pure (ForInStep.yield r)) (fun ok s3 =>
            if ok = true then wpAny (model prog w) A (eval iter2 env) (fun x s4 => wpAny (model prog w) A (pyIter x) (fun i2 s5 =>
              codeAny (model prog w) A (.compStart (dc2 kx vx tg iter ifs tg2 iter2 ifs2 scope pos) 1 i2 (.ref D) env) (fun r s6 => match r with | .ok _ => ∃ m, m < n ∧ I m s6 | .error _ => False) s5) (fun _ _ => False) s4) (fun _ _ => False) s3
            else ∃ m, m < n ∧ I m s3) (fun _ _ => False) s2) (fun _ _ => False) s1') (fun _ _ => False) s1) (fun _ _ => False) s)
    (n : Nat) (h : I n s) :
    codeAny (model prog w) A (.compLoop (dc2 kx vx tg iter ifs tg2 iter2 ifs2 scope pos) 0 it (.ref D) env) R s := by
  refine codeAny_loop rfl I (fun n s hI => ?_) n h
  show wpAny _ A ((compTurn (dc2 kx vx tg iter ifs tg2 iter2 ifs2 scope pos) 0 it (.ref D) env).onRaise (fun x => do noteFrame x env; theTreesLotGoes x)) _ _ s
  refine wpAny_noted ?_
  rw [turn_dc2a]
  refine wpAny_bind (wpAny_standAt (wpAny_bind (thnF (turn n s hI) (fun r s1 h1 => ?_))))
  cases r with
  | none => exact wpAny_pure h1
  | some v =>
    refine wpAny_bind (thnF h1 (fun _ s1' h1' => ?_))
    refine wpAny_bind (thnF h1' (fun _ s2 h2 => wpAny_bind (thnF h2 (fun ok s3 h3 => ?_))))
    cases ok with
    | false => exact wpAny_pure ⟨rfl, h3⟩
    | true =>
      refine wpAny_bind (thnF h3 (fun x s4 h4 => wpAny_bind (wpAny_standAt ?_)))
      rw [hs]
      refine wpAny_bind (wpAny_pure (wpAny_bind (wpAny_holding (thnF h4 fun i2 s5 h5 => wpAny_bind (wpAny_runOwn (codeAny_mono h5 fun r s6 h6 => ?_))))))
      cases r with
      | error e => exact False.elim h6
      | ok f => exact wpAny_pure ⟨rfl, h6⟩
end
section
variable {X : Cx}
/-- {k: v for tg in iter if .. for tg2 in iter2 if ..} -/
def tDcH (u0 : HO) (Put : Addr → Hp → V → V → Hp → Prop) (wi : TI) (g : TG) (tt : TT) (wi2 : TI) (g2 : TG) (tt2 : TT) (tk tv : TE) (vs vs2 : List Nat) : TE := fun σ H Q => wi σ H fun J H1 => ∀ D, H1 D = none → ∃ W : Nat → Nat → Hp → Prop, (∃ m, W 0 m (upd H1 D u0)) ∧ ∀ i m H, W i m H →
  (J.stop i H ∧ Q (.ref D) H) ∨ (J.go i H ∧ ∃ Nx : Hp → Prop, (∀ H', Nx H' → ∃ m', m' < m ∧ W (i + 1) m' H') ∧ ∀ x H', J.yld i H x H' → g x (wipe σ vs) H' fun σ2 H2 => wipe σ2 vs = wipe σ vs ∧ tt σ2 H2 fun b H3 =>
    if b = true then wi2 σ2 H3 fun J2 H4 => ∃ W2 : Nat → Nat → Hp → Prop, (∃ m2, W2 0 m2 H4) ∧ ∀ i2 m2 H5, W2 i2 m2 H5 →
      (J2.stop i2 H5 ∧ Nx H5) ∨ (J2.go i2 H5 ∧ ∃ Nx2 : Hp → Prop, (∀ H', Nx2 H' → ∃ m', m' < m2 ∧ W2 (i2 + 1) m' H') ∧ ∀ x2 H6, J2.yld i2 H5 x2 H6 → g2 x2 (wipe σ2 vs2) H6 fun σ3 H7 => wipe σ3 vs2 = wipe σ2 vs2 ∧ tt2 σ3 H7 fun b2 H8 =>
        if b2 = true then tk σ3 H8 fun y H9 => tv σ3 H9 fun z H10 => ∃ H11, Put D H10 y z H11 ∧ Nx2 H11 else Nx2 H8)
    else Nx H3)
theorem dcH_core {pins : List (Addr × Obj)} {s : Shared} {σ : L2.St} {H : Hp} {Q : VK} {kx vx tg iter tg2 iter2 : Expr} {ifs ifs2 : List Expr} {scope : Scope} {own : List (Str × Nat)} {pos pos' : Pos} {wi wi2 : TI} {g g2 : TG} {tt tt2 : TT} {tk tv : TE} {vs2 : List Nat} {use : Option (Value → Sem Unit)} {Qf : Value → Shared → Prop}
    {u0 : HO} {Put : Addr → Hp → V → V → Hp → Prop} (hnew : ∀ {H : Hp} (h : Heap), sysModules < h.objs.size → ObjOk X.prog X.w H (h.push { cls := .type "dict", data := .dict #[] }) h.objs.size u0)
    (hput : ∀ {X' : Cx} {pins : List (Addr × Obj)} {σ : L2.St} {H H' : Hp} {s : Shared} {D : Addr} {y z : V} {u r : Value} {Q : Unit → Shared → Prop} {E : Value → Shared → Prop}, X'.prog = X.prog → X'.w = X.w → X'.A = X.A → Inv X' pins σ H s → Put D H y z H' → RelV y u → RelV z r → (∀ s', Inv X' pins σ H' s' → Q () s') → wpAny (model X.prog X.w) X.A (dictSet D u r) Q E s)
    (hc : X.calm = true) (hN : X.N.Nodup) (I : Inv X pins σ H s) (hi : PI X tg iter wi) (ok : BlkOk X.N X.env.scope scope own) (sub : ∀ v ∈ vs2, v ∈ own.map (·.2))
    (hg : ∀ (s : Shared) (H : Hp) (C : Addr) (cl : List (Str × Addr)) (fp : List Addr), PG (X.blk s H scope (compEnvC scope cl C X.env) fp) tg g) (ht : ∀ (s : Shared) (H : Hp) (C : Addr) (cl : List (Str × Addr)) (fp : List Addr), PTs (X.blk s H scope (compEnvC scope cl C X.env) fp) ifs tt)
    (hi2 : ∀ (s : Shared) (H : Hp) (C : Addr) (cl : List (Str × Addr)) (fp : List Addr), PI (X.blk s H scope (compEnvC scope cl C X.env) fp) tg2 iter2 wi2)
    (hg2 : ∀ (s : Shared) (H : Hp) (C : Addr) (cl : List (Str × Addr)) (fp : List Addr), PG (X.blk s H scope (compEnvC scope cl C X.env) fp) tg2 g2) (ht2 : ∀ (s : Shared) (H : Hp) (C : Addr) (cl : List (Str × Addr)) (fp : List Addr), PTs (X.blk s H scope (compEnvC scope cl C X.env) fp) ifs2 tt2)
    (hk : ∀ (s : Shared) (H : Hp) (C : Addr) (cl : List (Str × Addr)) (fp : List Addr), PE (X.blk s H scope (compEnvC scope cl C X.env) fp) kx tk)
    (he : ∀ (s : Shared) (H : Hp) (C : Addr) (cl : List (Str × Addr)) (fp : List Addr), PE (X.blk s H scope (compEnvC scope cl C X.env) fp) vx tv) (hs : ∀ x, foldedSetIterable iter X.env x = pure x) (hs2 : ∀ env x, foldedSetIterable iter2 env x = pure x)
    (h : tDcH u0 Put wi g tt wi2 g2 tt2 tk tv (own.map (·.2)) vs2 σ H Q)
    (hRR : ∀ D C s' m H', Inv X pins σ H' s' → Q (.ref D) H' → s'.heap.Ns C m → FpOk X pins H' C → compPost (model X.prog X.w) X.A X.xe use Qf (.ref D) C (.ok .next) s') :
    wpAny (model X.prog X.w) X.A (comprehension (dc2 kx vx tg iter ifs tg2 iter2 ifs2 scope pos) scope X.env pos' newDict false (eval iter X.env) use) Qf X.xe s := by
  have hfree : ∀ y ∈ scope.names, y.2 = .free → ∃ c, X.env.cells.lookup y.1 = some c := fun y hy e => by
    rcases ok.free y hy e with k | k
    · exact I.ok.has _ (.inl k)
    · exact I.ok.has _ (.inr k)
  refine wpAny_comprehension_free (use := use) rfl hs (closure_ok hfree) ok.kind (fun y hy e => by rw [ok.uniq y hy, e])
    (thn (hi.run pins s σ H _ I h) fun xv s1 hx => thn hx fun itv s2 h2 => ?_)
  obtain ⟨it, fp, tn, J, H2, e, I2, T, st2, f2, q⟩ := h2
  subst e
  refine wpAny_newObj_type (newEnv_comp ?_)
  generalize hD : s2.heap.objs.size = D
  have hDn : H2 D = none := I2.hok.fresh (Nat.le_of_eq hD)
  obtain ⟨W, ⟨m0, w0⟩, turn⟩ := q D hDn
  generalize hs3 : ({ s2 with heap := s2.heap.push { cls := .type "dict", data := .dict #[] } } : Shared) = s3
  have I3 : Inv X pins σ (upd H2 D u0) s3 := by
    rw [← hs3]
    refine I2.laid (t' := s2.toks) (fun b o e => Heap.get?_push_of_some _ e) (Nat.le_of_eq hD) ?_
    rw [← hD]
    exact hnew s2.heap I2.big
  have h3 : s3.heap = s2.heap.push { cls := .type "dict", data := .dict #[] } := by rw [← hs3]
  have sz : ∀ b ∈ fp, b < s2.heap.objs.size := fun b hb => by
    obtain ⟨o, e, _⟩ := T.obj _ _ st2 b hb
    exact Heap.lt_size e
  have f3 : ∀ b ∈ fp, FpOk X pins (upd H2 D u0) b ∧ b < s3.heap.objs.size := fun b hb => by
    have hlt := sz b hb
    refine ⟨⟨?_, (f2 b hb).2⟩, by rw [h3, Heap.size_push]; exact Nat.lt_succ_of_lt hlt⟩
    rw [upd_ne (by rw [← hD]; exact Nat.ne_of_lt hlt)]
    exact (f2 b hb).1
  have st3 : tn 0 s3.heap := T.keep _ _ _ st2 fun b _ o e => by rw [h3]; exact Heap.get?_push_of_some _ e
  have I4 := block_start I3 ok hN f3
  have pg := hg s3 (upd H2 D u0) s3.heap.objs.size (cellsFrom (s3.heap.objs.size + 1) scope.names (cloFrom X.env.cells scope.names [])) fp
  have pt := ht s3 (upd H2 D u0) s3.heap.objs.size (cellsFrom (s3.heap.objs.size + 1) scope.names (cloFrom X.env.cells scope.names [])) fp
  have pi2 := hi2 s3 (upd H2 D u0) s3.heap.objs.size (cellsFrom (s3.heap.objs.size + 1) scope.names (cloFrom X.env.cells scope.names [])) fp
  have pg2 := hg2 s3 (upd H2 D u0) s3.heap.objs.size (cellsFrom (s3.heap.objs.size + 1) scope.names (cloFrom X.env.cells scope.names [])) fp
  have pt2 := ht2 s3 (upd H2 D u0) s3.heap.objs.size (cellsFrom (s3.heap.objs.size + 1) scope.names (cloFrom X.env.cells scope.names [])) fp
  have pk := hk s3 (upd H2 D u0) s3.heap.objs.size (cellsFrom (s3.heap.objs.size + 1) scope.names (cloFrom X.env.cells scope.names [])) fp
  have pe := he s3 (upd H2 D u0) s3.heap.objs.size (cellsFrom (s3.heap.objs.size + 1) scope.names (cloFrom X.env.cells scope.names [])) fp
  show codeAny _ _ (.compStart (dc2 kx vx tg iter ifs tg2 iter2 ifs2 scope pos) 0 (.ref it) (.ref D) (compEnvC scope (cellsFrom (s3.heap.objs.size + 1) scope.names (cloFrom X.env.cells scope.names [])) s3.heap.objs.size X.env)) (compPost (model X.prog X.w) X.A X.xe use Qf (.ref D) s3.heap.objs.size) { s3 with heap := pushCells (s3.heap.push { cls := .type "dict", data := .dict #[] }) scope.names }
  have nfp : ∀ b ∈ fp, (upd H2 D u0) b = none := fun b hb => (f3 b hb).1.1
  generalize hce : compEnvC scope (cellsFrom (s3.heap.objs.size + 1) scope.names (cloFrom X.env.cells scope.names [])) s3.heap.objs.size X.env = ce at I4 pg pt pi2 pg2 pt2 pk pe ⊢
  have cL : ce.locals = s3.heap.objs.size := by subst hce; rfl
  generalize hH3 : upd H2 D u0 = H3 at I3 I4 pg pt pi2 pg2 pt2 pk pe w0 nfp f3
  generalize hs4 : ({ s3 with heap := pushCells (s3.heap.push { cls := .type "dict", data := .dict #[] }) scope.names } : Shared) = s4 at I4 ⊢
  have st4 : tn 0 s4.heap := T.keep _ _ _ st3 fun b _ o e => by rw [← hs4]; exact pushCells_keeps _ _ _ _ (Heap.get?_push_of_some _ e)
  have stat : ∀ {σ' : L2.St} {H' : Hp} {s' : Shared}, Inv (X.blk s3 H3 scope ce fp) [] σ' H' s' → (∀ b ∈ fp, H' b = none) → ∀ b ∈ fp, FpOk (X.blk s3 H3 scope ce fp) [] H' b := fun {σ' H' s'} I' hn b hb =>
    ⟨hn b hb, (I'.ok.exf b hb).1, I'.ok.exfs b hb, .inl hb, fun x c e => (I'.ok.exf b hb).2 x c e, fun p hp => absurd (show p ∈ ([] : List (Addr × Obj)) ++ [] from hp) (by simp)⟩
  have loop : codeAny (model X.prog X.w) X.A (.compLoop (dc2 kx vx tg iter ifs tg2 iter2 ifs2 scope pos) 0 (.ref it) (.ref D) ce) (compPost (model X.prog X.w) X.A X.xe use Qf (.ref D) s3.heap.objs.size) s4 := by
    refine loop_dc2a (fun n s' => ∃ i H', Inv (X.blk s3 H3 scope ce fp) [] (wipe σ (own.map (·.2))) H' s' ∧ tn i s'.heap ∧ (∀ b ∈ fp, H' b = none) ∧ W i n H') (hs2 ce) ?_ m0 ⟨0, H3, I4, st4, nfp, w0⟩
    rintro n s5 ⟨i, H5, I5, st5, n5, w5⟩
    rcases turn i n H5 w5 with ⟨stop, qq⟩ | ⟨go, Nx, hNx, step⟩
    · have td := T.done (X.blk s3 H3 scope ce fp) rfl rfl rfl hc i [] s5 _ H5 (fun _ _ => False) I5 (stat I5 n5) st5 stop
      refine thnF td fun r s6 ⟨hr, I6⟩ => ?_
      subst hr
      have I7 : Inv X pins σ H5 s6 := I3.call' (ch := fp) I6.os I6.base I6.hok I6.bare fun b hb => ⟨(f3 b hb).1.2.2.2.1, (f3 b hb).1.2.1, (f3 b hb).1.2.2.2.2.1, (f3 b hb).1.2.2.2.2.2⟩
      have nC : H5 s3.heap.objs.size = none := by
        have z : H5 ce.locals = none := I6.free
        rw [cL] at z
        exact z
      obtain ⟨m, hn, _⟩ := I6.loc
      have hn : s6.heap.Ns ce.locals m := hn
      rw [cL] at hn
      exact hRR D s3.heap.objs.size s6 m H5 I7 qq hn (I3.fpOk (Nat.le_refl _) nC)
    · have ti := T.item (X.blk s3 H3 scope ce fp) rfl rfl rfl hc i [] s5 _ H5 (fun _ _ => False) I5 (stat I5 n5) st5 go
      refine thnF ti fun r s6 ⟨u, hr, h6⟩ => ?_
      subst hr
      refine thnF h6 fun _ s7 ⟨x, H7, I7, r7, y7, st7, n7⟩ => ?_
      have I7' := I7.pinned (stat I7 n7) (T.obj _ _ st7)
      refine thnF (pg.run _ s7 _ H7 x u _ I7' r7 (step x H7 y7)) fun _ s8 ⟨σ8, H8, I8, hw8, q8⟩ => ?_
      refine thnF (pt.run _ s8 σ8 H8 _ I8 q8) fun b s9 ⟨H9, I9, q9⟩ => ?_
      have fin : ∀ {s' : Shared} {H' : Hp} {σ9 : L2.St}, Inv (X.blk s3 H3 scope ce fp) ([] ++ pinsAt fp s7.heap) σ9 H' s' → σ9.length = σ8.length → (∀ (j : Nat) v, (wipe σ8 (own.map (·.2)))[j]? = some (some v) → σ9[j]? = some (some v)) → Nx H' → ∃ m, m < n ∧ ∃ i H', Inv (X.blk s3 H3 scope ce fp) [] (wipe σ (own.map (·.2))) H' s' ∧ tn i s'.heap ∧ (∀ b ∈ fp, H' b = none) ∧ W i m H' := fun {s' H' σ9} I' l9 k9 nx => by
        obtain ⟨m', hm, w'⟩ := hNx H' nx
        have pin' : ∀ b ∈ fp, ∀ o, s7.heap.get? b = some o → s'.heap.get? b = some o ∧ H' b = none := fun b hb o e =>
          let z := I'.pin (b, o) (List.mem_append_right _ (List.mem_append_right _ (mem_pinsAt hb e)))
          ⟨z.1, z.2.1⟩
        have hl : (wipe σ (own.map (·.2))).length = σ9.length := by rw [← hw8, wipe_length, l9]
        refine ⟨m', hm, i + 1, H', (I'.unpinned (pins := [])).weak hl (fun j v e => ?_), T.keep _ _ _ st7 fun b hb o e => (pin' b hb o e).1, fun b hb => ?_, w'⟩
        · rw [← hw8] at e
          exact k9 j v e
        · obtain ⟨o, e, _⟩ := T.obj _ _ st7 b hb
          exact (pin' b hb o e).2
      cases b with
      | false =>
        simp only [Bool.false_eq_true, if_false] at q9 ⊢
        exact fin I9 rfl (fun j v e => (wipe_some e).1) q9
      | true =>
        simp only [if_true] at q9 ⊢
        refine thnF (pi2.run _ s9 σ8 H9 _ I9 q9) fun x2 s10 hx2 => thnF hx2 fun itv2 s11 h11 => ?_
        obtain ⟨it2, fp2, tn2, J2, H11, e2, I11, T2, st11, f11, W2, ⟨m2, w2⟩, turn2⟩ := h11
        subst e2
        have stat2 : ∀ {H' : Hp}, (∀ b ∈ fp2, H' b = none) → ∀ b ∈ fp2, FpOk (X.blk s3 H3 scope ce fp) ([] ++ pinsAt fp s7.heap) H' b := fun hn b hb => ⟨hn b hb, (f11 b hb).2⟩
        have kept : ∀ (j : Nat) v, (wipe σ8 vs2)[j]? = some (some v) → σ8[j]? = some (some v) := fun j v e => (wipe_some e).1
        have I11w : Inv (X.blk s3 H3 scope ce fp) ([] ++ pinsAt fp s7.heap) (wipe σ8 vs2) H11 s11 := I11.weak (wipe_length _ _) kept
        have loop2 : codeAny (model X.prog X.w) X.A (.compLoop (dc2 kx vx tg iter ifs tg2 iter2 ifs2 scope pos) 1 (.ref it2) (.ref D) ce) (fun r s6 => match r with | .ok _ => ∃ m, m < n ∧ ∃ i H', Inv (X.blk s3 H3 scope ce fp) [] (wipe σ (own.map (·.2))) H' s6 ∧ tn i s6.heap ∧ (∀ b ∈ fp, H' b = none) ∧ W i m H' | .error _ => False) s11 := by
          refine loop_dc2b (fun n2 s' => ∃ i2 H', Inv (X.blk s3 H3 scope ce fp) ([] ++ pinsAt fp s7.heap) (wipe σ8 vs2) H' s' ∧ tn2 i2 s'.heap ∧ (∀ b ∈ fp2, H' b = none) ∧ W2 i2 n2 H') ?_ m2 ⟨0, H11, I11w, st11, fun b hb => (f11 b hb).1, w2⟩
          rintro n2 s12 ⟨i2, H12, I12, st12, n12, w12⟩
          rcases turn2 i2 n2 H12 w12 with ⟨stop2, qq2⟩ | ⟨go2, Nx2, hNx2, step2⟩
          · refine thnF (T2.done (X.blk s3 H3 scope ce fp) rfl rfl rfl hc i2 _ s12 _ H12 (fun _ _ => False) I12 (stat2 n12) st12 stop2) fun r s13 ⟨hr, I13⟩ => ?_
            subst hr
            refine fin I13 (wipe_length _ _) (fun j v e => ?_) qq2
            obtain ⟨e1, e2⟩ := wipe_some e
            rw [wipe_out fun z => e2 (sub _ z)]
            exact e1
          · refine thnF (T2.item (X.blk s3 H3 scope ce fp) rfl rfl rfl hc i2 _ s12 _ H12 (fun _ _ => False) I12 (stat2 n12) st12 go2) fun r s13 ⟨u2, hr, h13⟩ => ?_
            subst hr
            refine thnF h13 fun _ s14 ⟨x3, H14, I14, r14, y14, st14, n14⟩ => ?_
            have I14' := I14.pinned (stat2 n14) (T2.obj _ _ st14)
            refine thnF (pg2.run _ s14 _ H14 x3 u2 _ I14' r14 (step2 x3 H14 y14)) fun _ s15 ⟨σ15, H15, I15, hw15, q15⟩ => ?_
            refine thnF (pt2.run _ s15 σ15 H15 _ I15 q15) fun b2 s16 ⟨H16, I16, q16⟩ => ?_
            have fin2 : ∀ {s' : Shared} {H' : Hp}, Inv (X.blk s3 H3 scope ce fp) (([] ++ pinsAt fp s7.heap) ++ pinsAt fp2 s14.heap) σ15 H' s' → Nx2 H' → ∃ m, m < n2 ∧ ∃ i2 H', Inv (X.blk s3 H3 scope ce fp) ([] ++ pinsAt fp s7.heap) (wipe σ8 vs2) H' s' ∧ tn2 i2 s'.heap ∧ (∀ b ∈ fp2, H' b = none) ∧ W2 i2 m H' := fun {s' H'} I' nx => by
              obtain ⟨m', hm, w'⟩ := hNx2 H' nx
              have pin' : ∀ b ∈ fp2, ∀ o, s14.heap.get? b = some o → s'.heap.get? b = some o ∧ H' b = none := fun b hb o e =>
                let z := I'.pin (b, o) (List.mem_append_right _ (List.mem_append_right _ (mem_pinsAt hb e)))
                ⟨z.1, z.2.1⟩
              have hl : (wipe σ8 vs2).length = σ15.length := by rw [← hw15, wipe_length]
              refine ⟨m', hm, i2 + 1, H', I'.unpinned.weak hl (fun j v e => ?_), T2.keep _ _ _ st14 fun b hb o e => (pin' b hb o e).1, fun b hb => ?_, w'⟩
              · rw [← hw15] at e
                exact (wipe_some e).1
              · obtain ⟨o, e, _⟩ := T2.obj _ _ st14 b hb
                exact (pin' b hb o e).2
            cases b2 with
            | false =>
              simp only [Bool.false_eq_true, if_false] at q16 ⊢
              exact fin2 I16 q16
            | true =>
              simp only [if_true] at q16 ⊢
              refine thnF (pk.run _ s16 σ15 H16 _ I16 q16) fun z s17 ⟨yk, H17, I17, r17, q17⟩ => ?_
              refine thnF (pe.run _ s17 σ15 H17 _ I17 q17) fun z2 s18 ⟨yv, H18, I18, r18, H19, hp, nx⟩ => ?_
              exact hput (X' := X.blk s3 H3 scope ce fp) rfl rfl rfl I18 hp r17 r18 fun s19 I19 => fin2 I19 nx
        exact start_dc2b loop2 (T2.self X.A 0 _ _ _ st11 loop2)
  exact codeAny_compStart_dict loop (T.self X.A 0 _ _ _ st4 loop)
theorem pe_dc2T {kx vx tg iter tg2 iter2 : Expr} {ifs ifs2 : List Expr} {scope : Scope} {own : List (Str × Nat)} {pos : Pos} {wi wi2 : TI} {g g2 : TG} {tt tt2 : TT} {tk tv : TE} {vs2 : List Nat} (hu : X.A.units < cLine) (hc : X.calm = true) (hN : X.N.Nodup) (hi : PI X tg iter wi) (ok : BlkOk X.N X.env.scope scope own) (sub : ∀ v ∈ vs2, v ∈ own.map (·.2))
    (hg : ∀ (s : Shared) (H : Hp) (C : Addr) (cl : List (Str × Addr)) (fp : List Addr), PG (X.blk s H scope (compEnvC scope cl C X.env) fp) tg g) (ht : ∀ (s : Shared) (H : Hp) (C : Addr) (cl : List (Str × Addr)) (fp : List Addr), PTs (X.blk s H scope (compEnvC scope cl C X.env) fp) ifs tt)
    (hi2 : ∀ (s : Shared) (H : Hp) (C : Addr) (cl : List (Str × Addr)) (fp : List Addr), PI (X.blk s H scope (compEnvC scope cl C X.env) fp) tg2 iter2 wi2)
    (hg2 : ∀ (s : Shared) (H : Hp) (C : Addr) (cl : List (Str × Addr)) (fp : List Addr), PG (X.blk s H scope (compEnvC scope cl C X.env) fp) tg2 g2) (ht2 : ∀ (s : Shared) (H : Hp) (C : Addr) (cl : List (Str × Addr)) (fp : List Addr), PTs (X.blk s H scope (compEnvC scope cl C X.env) fp) ifs2 tt2)
    (hk : ∀ (s : Shared) (H : Hp) (C : Addr) (cl : List (Str × Addr)) (fp : List Addr), PE (X.blk s H scope (compEnvC scope cl C X.env) fp) kx tk)
    (he : ∀ (s : Shared) (H : Hp) (C : Addr) (cl : List (Str × Addr)) (fp : List Addr), PE (X.blk s H scope (compEnvC scope cl C X.env) fp) vx tv) (hs : ∀ x, foldedSetIterable iter X.env x = pure x := by intro _; rfl) (hs2 : ∀ env x, foldedSetIterable iter2 env x = pure x := by intro _ _; rfl) :
    PE X (dc2 kx vx tg iter ifs tg2 iter2 ifs2 scope pos) (tDcH (.dT []) PutT wi g tt wi2 g2 tt2 tk tv (own.map (·.2)) vs2) := by
  refine ⟨fun pins s σ H Q I h => ?_⟩
  rw [arm_eval_DictComp]
  refine dcH_core (fun h hb => dt_empty h hb) (fun {X' pins σ H H' s D y z u r Q E} e1 e2 e3 I hp ry rz h => by
    obtain ⟨kvs, k, b, rfl, eb, hD, hz, rfl⟩ := hp
    have := d_dictSetT (E := E) (Q := Q) (by rw [e3]; exact hu) I hD hz eb ry rz h
    rwa [e1, e2, e3] at this) hc hN I hi ok sub hg ht hi2 hg2 ht2 hk he hs hs2 h fun D C s' m H' I' q hn f => ⟨m, hn, fun h'' sb => ?_⟩
  obtain ⟨f0, f1, f2, f3, f4, f5⟩ := f
  exact ⟨.ref D, H', I'.turned (t' := s'.toks) (fun b o hb e => (sb.2 b hb).trans e) f0 f1 f3 f4 f5, rfl, q⟩
end
end Dt
namespace Al
open PySem PyProof.Rows L2 Gx Dt
variable [Al.TabList]
section
variable {X : Cx}
theorem pe_dc2D {kx vx tg iter tg2 iter2 : Expr} {ifs ifs2 : List Expr} {scope : Scope} {own : List (Str × Nat)} {pos : Pos} {wi wi2 : TI} {g g2 : TG} {tt tt2 : TT} {tk tv : TE} {vs2 : List Nat} (hu : X.A.units + 64 < cLine) (hc : X.calm = true) (hN : X.N.Nodup) (hi : PI X tg iter wi) (ok : BlkOk X.N X.env.scope scope own) (sub : ∀ v ∈ vs2, v ∈ own.map (·.2))
    (hg : ∀ (s : Shared) (H : Hp) (C : Addr) (cl : List (Str × Addr)) (fp : List Addr), PG (X.blk s H scope (compEnvC scope cl C X.env) fp) tg g) (ht : ∀ (s : Shared) (H : Hp) (C : Addr) (cl : List (Str × Addr)) (fp : List Addr), PTs (X.blk s H scope (compEnvC scope cl C X.env) fp) ifs tt)
    (hi2 : ∀ (s : Shared) (H : Hp) (C : Addr) (cl : List (Str × Addr)) (fp : List Addr), PI (X.blk s H scope (compEnvC scope cl C X.env) fp) tg2 iter2 wi2)
    (hg2 : ∀ (s : Shared) (H : Hp) (C : Addr) (cl : List (Str × Addr)) (fp : List Addr), PG (X.blk s H scope (compEnvC scope cl C X.env) fp) tg2 g2) (ht2 : ∀ (s : Shared) (H : Hp) (C : Addr) (cl : List (Str × Addr)) (fp : List Addr), PTs (X.blk s H scope (compEnvC scope cl C X.env) fp) ifs2 tt2)
    (hk : ∀ (s : Shared) (H : Hp) (C : Addr) (cl : List (Str × Addr)) (fp : List Addr), PE (X.blk s H scope (compEnvC scope cl C X.env) fp) kx tk)
    (he : ∀ (s : Shared) (H : Hp) (C : Addr) (cl : List (Str × Addr)) (fp : List Addr), PE (X.blk s H scope (compEnvC scope cl C X.env) fp) vx tv) (hs : ∀ x, foldedSetIterable iter X.env x = pure x := by intro _; rfl) (hs2 : ∀ env x, foldedSetIterable iter2 env x = pure x := by intro _ _; rfl) :
    PE X (.DictComp kx vx [⟨tg, iter, ifs, 0⟩, ⟨tg2, iter2, ifs2, 0⟩] scope pos) (tDcH (.dT []) PutT wi g tt wi2 g2 tt2 tk tv (own.map (·.2)) vs2) := pe_dc2T (by omega) hc hN hi ok sub hg ht hi2 hg2 ht2 hk he hs hs2
end
def storG (acc : KD) (ps : List (List Key × D)) : KD := ps.foldl (fun a p => putG a p.1 p.2) acc
theorem storG_len : ∀ (ps : List (List Key × D)) (acc : KD), (storG acc ps).length ≤ acc.length + ps.length
  | [], acc => Nat.le_refl _
  | p :: ps, acc => by
    have h1 := putG_len acc p.1 p.2
    have h2 := storG_len ps (putG acc p.1 p.2)
    show (storG (putG acc p.1 p.2) ps).length ≤ _
    rw [List.length_cons]
    omega
theorem storG_app (a b : List (List Key × D)) (acc : KD) : storG acc (a ++ b) = storG (storG acc a) b := List.foldl_append
section
variable {B : Base} {K : PySem.W.Frag} {σ : AEnv} {M : List MO} {tk tv : TE} {Φ : AV → List MO → Prop}
theorem mu_same {W W1 : Hp} {μ : List Addr} {H1 : Hp} {μ1 : List Addr} {M1 : List MO} (f : Go B K W μ W1 μ1 M1 H1) (hm : M1.length = μ.length) : μ1 = μ := by
  obtain ⟨e', he'⟩ := f.mext
  have hz := f.sim.len
  rw [he', hm, List.length_append] at hz
  rw [List.eq_nil_of_length_eq_zero (show e'.length = 0 by omega)] at he'
  simpa using he'
theorem ae_dfmap2 {wi wi2 : TI} {g g2 : TG} {tt : TT} {vs vs2 : List Nat} {l : List D} (F : D → D → List Key × D) (pp : D → Bool) (G : D → List D) (hM : M.all (MO.below M.length) = true) (gk : GK g vs) (gk2 : GK g2 vs2) (hz : (l.flatMap fun d => if pp d = true then (G d).map (F d) else []).length < sizeLine)
    (h : AI B K wi σ M fun items M1 => M1 = M ∧ items = l ∧ Φ (.m M.length) (M ++ [dM (storG [] (l.flatMap fun d => if pp d = true then (G d).map (F d) else []))]))
    (ht : ∀ d ∈ l, ∀ acc, AG B K g (.d d) (wipeA σ vs) (M ++ [dM acc]) fun σ2 M2 => AT B K tt σ2 M2 fun b M3 => b = pp d ∧ M3 = M ++ [dM acc] ∧ (pp d = true → AI B K wi2 σ2 M3 fun items2 M4 => items2 = G d ∧ M4 = M ++ [dM acc] ∧
      ∀ e ∈ G d, ∀ acc, AG B K g2 (.d e) (wipeA σ2 vs2) (M ++ [dM acc]) fun σ3 M5 => AE B K tk σ3 M5 fun y M6 => y = .d (.key (F d e).1) ∧ AE B K tv σ3 M6 fun z M7 => z = .d (F d e).2 ∧ M7 = M ++ [dM acc])) :
    AE B K (tDcH (.dT []) PutT wi g tt wi2 g2 tYes tk tv vs vs2) σ M Φ := fun W μ H τ o s e Q q =>
  h W μ H τ o s e _ fun items M1 W1 μ1 H1 J ⟨e1, e2, hd⟩ f1 ok Dd hD => by
    subst e1; subst e2
    have hl : μ1.length = M1.length := f1.sim.len
    have hM1 : ∀ acc : KD, (M1 ++ [dM acc]).length = (μ1 ++ [Dd]).length := fun acc => by rw [List.length_append, List.length_append, hl]; rfl
    have g0 : Go B K W1 μ1 W1 (μ1 ++ [Dd]) (M1 ++ [dM []]) (upd H1 Dd (.dT [])) := go_mut (mo := dM []) f1.ok f1.sim hD ⟨[], upd_same, rfl, rfl⟩
    have hDk : (μ1 ++ [Dd])[M1.length]? = some Dd := by rw [← hl, List.getElem?_append_right (Nat.le_refl _), Nat.sub_self]; rfl
    generalize hP : (fun d => if pp d = true then (G d).map (F d) else []) = P at hz hd
    have few : ∀ i, ((items.take i).flatMap P).length ≤ (items.flatMap P).length := fun i => by
      have e := List.take_append_drop i items
      have e2 : (items.flatMap P).length = ((items.take i).flatMap P).length + ((items.drop i).flatMap P).length := by
        rw [← List.length_append, ← List.flatMap_append, e]
      omega
    refine ⟨fun i m H' => m = items.length - i ∧ i ≤ items.length ∧ ∃ acc W', acc = storG [] ((items.take i).flatMap P) ∧ Go B K W1 μ1 W' (μ1 ++ [Dd]) (M1 ++ [dM acc]) H', ⟨items.length, rfl, Nat.zero_le _, [], W1, rfl, g0⟩, ?_⟩
    rintro i m H' ⟨rfl, hi, acc, W', ea, g1⟩
    have hok := ok W' H' (M1 ++ [dM acc]) [Dd] g1.wext g1.sim trivial
    by_cases hlt : i < items.length
    · refine .inr ?_
      obtain ⟨hgo, hy⟩ := hok.1 i items[i] (List.getElem?_eq_getElem hlt)
      have hfl : (items.take (i + 1)).flatMap P = (items.take i).flatMap P ++ P items[i] := by
        rw [List.take_add_one, List.getElem?_eq_getElem hlt, List.flatMap_append]
        simp
      refine ⟨hgo, fun H2 => i + 1 ≤ items.length ∧ ∃ acc W', acc = storG [] ((items.take (i + 1)).flatMap P) ∧ Go B K W1 μ1 W' (μ1 ++ [Dd]) (M1 ++ [dM acc]) H2, fun H2 hN => ⟨items.length - (i + 1), by omega, rfl, hN⟩, fun x Hx hyx => ?_⟩
      obtain ⟨Wx, gx, rx⟩ := go_item g1.ok g1.sim (hy x Hx hyx)
      have ex := re_wipe ((g1.trans gx).re (f1.re e)) vs
      have hag := ht items[i] (List.getElem_mem hlt) acc Wx (μ1 ++ [Dd]) Hx (wipe τ vs) x gx.ok gx.sim ex rx
      have few1 := few (i + 1)
      rw [hfl, List.length_append] at few1
      rw [hfl]
      generalize hd0 : items[i] = d at hag few1 ⊢
      have hPd : P d = if pp d = true then (G d).map (F d) else [] := by rw [← hP]
      have key := gk x (wipe τ vs) Hx _ (hag (fun τ2 H2 => tt τ2 H2 fun b H3 =>
          if b = true then wi2 τ2 H3 fun J2 H4 => ∃ W2 : Nat → Nat → Hp → Prop, (∃ m2, W2 0 m2 H4) ∧ ∀ i2 m2 H5, W2 i2 m2 H5 →
            (J2.stop i2 H5 ∧ (i + 1 ≤ items.length ∧ ∃ acc W', acc = storG [] ((items.take i).flatMap P ++ P d) ∧ Go B K W1 μ1 W' (μ1 ++ [Dd]) (M1 ++ [dM acc]) H5)) ∨ (J2.go i2 H5 ∧ ∃ Nx2 : Hp → Prop, (∀ H', Nx2 H' → ∃ m', m' < m2 ∧ W2 (i2 + 1) m' H') ∧ ∀ x2 H6, J2.yld i2 H5 x2 H6 → g2 x2 (wipe τ2 vs2) H6 fun τ3 H7 => wipe τ3 vs2 = wipe τ2 vs2 ∧ tYes τ3 H7 fun b2 H8 =>
              if b2 = true then tk τ3 H8 fun y H9 => tv τ3 H9 fun z H10 => ∃ H11, PutT Dd H10 y z H11 ∧ Nx2 H11 else Nx2 H8)
          else (i + 1 ≤ items.length ∧ ∃ acc W', acc = storG [] ((items.take i).flatMap P ++ P d) ∧ Go B K W1 μ1 W' (μ1 ++ [Dd]) (M1 ++ [dM acc]) H3)) fun σ2 M2 W2 μ2 H2 τ2 p2 f2 e2 => ?_)
      · rw [wipe_wipe] at key
        exact key
      · refine p2 W2 μ2 H2 τ2 f2.ok f2.sim e2 _ fun b M3 W3 μ3 H3 ⟨eb, eM3, pt⟩ f3 => ?_
        subst eM3
        have gx3 := f2.trans f3
        have hμ := mu_same gx3 (hM1 acc)
        subst hμ
        cases hpp : pp d with
        | false =>
          rw [hpp] at eb
          subst eb
          refine iteF ?_
          refine ⟨hlt, acc, W3, ?_, (g1.trans gx).trans gx3⟩
          rw [hPd, hpp, if_neg (by simp), List.append_nil]
          exact ea
        | true =>
          rw [hpp] at eb
          subst eb
          refine iteT ?_
          rw [hpp, if_pos rfl] at hPd
          refine pt hpp W3 _ H3 τ2 f3.ok f3.sim (f3.re e2) _ fun items2 M4 W4 μ4 H4 J2 ⟨ei2, eM4, ht2⟩ f4 ok2 => ?_
          subst ei2; subst eM4
          have hμ4 := mu_same f4 (hM1 acc)
          subst hμ4
          have eτ2 := (f3.trans f4).re e2
          refine ⟨fun i2 m2 H' => m2 = (G d).length - i2 ∧ i2 ≤ (G d).length ∧ ∃ acc2 W', acc2 = storG acc (((G d).take i2).map (F d)) ∧ Go B K W4 (μ1 ++ [Dd]) W' (μ1 ++ [Dd]) (M1 ++ [dM acc2]) H', ⟨(G d).length, rfl, Nat.zero_le _, acc, W4, rfl, Go.refl f4.ok f4.sim⟩, ?_⟩
          rintro i2 m2 H5 ⟨rfl, hi2, acc2, W5, ea2, g5⟩
          have hok2 := ok2 W5 H5 (M1 ++ [dM acc2]) [] g5.wext (by rw [List.append_nil]; exact g5.sim) trivial
          by_cases hlt2 : i2 < (G d).length
          · refine .inr ?_
            obtain ⟨hgo2, hy2⟩ := hok2.1 i2 (G d)[i2] (List.getElem?_eq_getElem hlt2)
            refine ⟨hgo2, fun H' => i2 + 1 ≤ (G d).length ∧ ∃ acc2 W', acc2 = storG acc (((G d).take (i2 + 1)).map (F d)) ∧ Go B K W4 (μ1 ++ [Dd]) W' (μ1 ++ [Dd]) (M1 ++ [dM acc2]) H', fun H' hN => ⟨(G d).length - (i2 + 1), by omega, rfl, hN⟩, fun x2 Hx2 hyx2 => ?_⟩
            obtain ⟨Wx2, gx2, rx2⟩ := go_item g5.ok g5.sim (hy2 x2 Hx2 hyx2)
            have ex2 := re_wipe ((g5.trans gx2).re eτ2) vs2
            have hag2 := ht2 (G d)[i2] (List.getElem_mem hlt2) acc2 Wx2 (μ1 ++ [Dd]) Hx2 (wipe τ2 vs2) x2 gx2.ok gx2.sim ex2 rx2
            generalize hd2 : (G d)[i2] = d2 at hag2
            have key2 := gk2 x2 (wipe τ2 vs2) Hx2 _ (hag2 (fun τ3 H7 => tYes τ3 H7 fun b2 H8 =>
                if b2 = true then tk τ3 H8 fun y H9 => tv τ3 H9 fun z H10 => ∃ H11, PutT Dd H10 y z H11 ∧ (i2 + 1 ≤ (G d).length ∧ ∃ acc2 W', acc2 = storG acc (((G d).take (i2 + 1)).map (F d)) ∧ Go B K W4 (μ1 ++ [Dd]) W' (μ1 ++ [Dd]) (M1 ++ [dM acc2]) H11)
                else (i2 + 1 ≤ (G d).length ∧ ∃ acc2 W', acc2 = storG acc (((G d).take (i2 + 1)).map (F d)) ∧ Go B K W4 (μ1 ++ [Dd]) W' (μ1 ++ [Dd]) (M1 ++ [dM acc2]) H8)) fun σ3 M6 W6 μ6 H6 τ3 p3 f6 e3 => ?_)
            · rw [wipe_wipe] at key2
              exact key2
            · refine at_yes (Φ := fun b M7 => b = true ∧ M7 = M6) ⟨rfl, rfl⟩ W6 μ6 H6 τ3 f6.ok f6.sim e3 _ fun b M7 W7 μ7 H7 ⟨eb, eM7⟩ f7 => ?_
              subst eb; subst eM7
              refine iteT ?_
              have gx7 := f6.trans f7
              refine p3 W7 μ7 H7 τ3 f7.ok f7.sim (f7.re e3) _ fun y M8 W8 μ8 H8 v ⟨ey, p4⟩ f8 r8 => ?_
              subst ey
              refine p4 W8 μ8 H8 τ3 f8.ok f8.sim ((f7.trans f8).re e3) _ fun z M9 W9 μ9 H9 v9 ⟨ez, eM9⟩ f9 r9 => ?_
              subst ez; subst eM9
              have gx9 := (gx7.trans f8).trans f9
              have hμ9 := mu_same gx9 (hM1 acc2)
              subst hμ9
              obtain ⟨b, rfl, hb⟩ := r8
              obtain ⟨cvs, h1, h2⟩ := dM_at (kvs := acc2) f9.sim hDk (by rw [List.getElem?_append_right (Nat.le_refl _), Nat.sub_self]; rfl)
              have g10 := go_set (mo := dM (putG acc2 (F d d2).1 (F d d2).2)) (u := .dT (L2.putK cvs (F d d2).1 v9)) f9.ok f9.sim hDk (dM_ok upd_same (h2.put r9))
              have eM : (M1 ++ [dM acc2]).set M1.length (dM (putG acc2 (F d d2).1 (F d d2).2)) = M1 ++ [dM (putG acc2 (F d d2).1 (F d d2).2)] := by
                rw [List.set_append_right _ _ (Nat.le_refl _), Nat.sub_self]; rfl
              rw [eM] at g10
              refine ⟨_, ⟨cvs, (F d d2).1, b, rfl, f9.sim.sub _ _ (f9.wext _ _ hb), h1, ?_, rfl⟩, hlt2, _, W9, ?_, ((g5.trans gx2).trans gx9).trans g10⟩
              · rw [← h2.len, ea2]
                have l1 := storG_len (((G d).take i2).map (F d)) acc
                have l2 := storG_len ((items.take i).flatMap P) []
                rw [List.length_map, List.length_take] at l1
                rw [← ea] at l2
                rw [hPd, List.length_map] at few1
                simp only [List.length_nil, Nat.zero_add] at l2
                omega
              · rw [List.take_add_one, List.getElem?_eq_getElem hlt2, List.map_append, storG_app, ← ea2, hd2]; rfl
          · have hil : i2 = (G d).length := by omega
            subst hil
            rw [List.take_length] at ea2
            refine .inl ⟨hok2.2, hlt, acc2, W5, ?_, ((((g1.trans gx).trans gx3).trans f4).trans g5)⟩
            rw [storG_app, ← ea, hPd]
            exact ea2
    · have hil : i = items.length := by omega
      subst hil
      rw [List.take_length] at ea
      rw [← ea] at hd
      exact .inl ⟨hok.2, q _ _ _ _ _ _ hd (f1.trans g1) ⟨Dd, hDk, rfl⟩⟩
end
end Al
namespace Al
open PySem PySem.Spec PyProof.Rows L2 Gx
variable [Al.TabList]
theorem pick_down (its : List Value) : slicePick its.toArray none (some 0) (some (-1)) = ((its.drop 1).reverse).toArray := by
  cases its with
  | nil => rfl
  | cons x r =>
    have hb : sliceBounds none (some 0) (some (-1)) (r.length + 1) = (((r.length : Int)), 0, -1) := by
      unfold sliceBounds
      have : ¬ ((-1 : Int) > 0) := by decide
      simp [this]
      try omega
    unfold slicePick
    rw [show (x :: r).toArray.size = r.length + 1 by simp, hb]
    have hr : sliceRange (r.length : Int) 0 (-1) = (List.range r.length).map fun k => r.length - k := by
      unfold sliceRange
      have h1 : ¬ ((-1 : Int) > 0) := by decide
      by_cases h : (r.length : Int) > 0
      · have e : (((r.length : Int) - 0 - -1 - 1) / (- -1)) = (r.length : Int) := by
          rw [show (- -1 : Int) = 1 by decide, Int.ediv_one]
          omega
        simp only [h1, if_false, h, if_true, e, Int.toNat_natCast]
        apply List.map_congr_left
        intro k hk
        have := List.mem_range.mp hk
        omega
      · have e : r.length = 0 := by omega
        rw [e]
        simp
    show ((sliceRange (r.length : Int) 0 (-1)).filterMap ((x :: r).toArray[·]?)).toArray = _
    rw [hr]
    congr 1
    rw [List.drop_one, List.tail_cons]
    have h2 : (List.range r.length).map (fun k => r.length - k) = ((List.range r.length).map fun k => k + 1).reverse := by
      apply List.ext_getElem
      · simp
      · intro i h1 h2
        simp at h1
        rw [List.getElem_map, List.getElem_reverse, List.getElem_map]
        simp
        omega
    rw [h2, List.filterMap_reverse, List.filterMap_map]
    have h3 : (List.range r.length).filterMap ((fun k => (x :: r).toArray[k]?) ∘ fun k => k + 1) = r := by
      have h4 := PySem.W.krv_all r.toArray
      simp only [List.size_toArray] at h4
      refine Eq.trans (congrArg (fun f => List.filterMap f (List.range r.length)) (funext fun k => ?_)) h4
      simp
    rw [h3]
theorem pick_rev (its : List Value) : slicePick its.toArray none none (some (-1)) = its.reverse.toArray := PySem.W.krv_pick its.toArray
def downV (xs : List V) : Option Int → List V | none => xs.reverse | some _ => (xs.drop 1).reverse
def downD (xs : List D) : Option Int → List D | none => xs.reverse | some _ => (xs.drop 1).reverse
def tSlR (K : PySem.W.Frag) (te : TE) (tl th tk : TO) : TE := fun σ H Q => te σ H fun x H1 => tl σ H1 fun l H2 => th σ H2 fun u H3 => tk σ H3 fun k H4 => l = none ∧ (u = none ∨ u = some 0) ∧ k = some (-1) ∧ ∃ a xs, x = .ref a ∧ SqL K H4 a xs ∧ ∀ p, H4 p = none → Q (.ref p) (upd H4 p (.lst (downV xs u)))
theorem pe_sliceR {X : Cx} {e : Expr} {lo hi : Option Expr} {st : Expr} {p2 pos : Pos} {te : TE} {tl th tk : TO} (he : PE X e te) (hl : PO X lo tl) (hu : PO X hi th) (hk : PO X (some st) tk) : PE X (.Subscript e (.Slice lo hi (some st) p2) pos) (tSlR X.K te tl th tk) := by
  refine ⟨fun pins s σ H Q I h => ?_⟩
  refine Subscript_ (thn (he.run pins s σ H _ I h) fun v s1 ⟨x, H1, I1, r1, q1⟩ => ?_)
  refine wpAny_Slice (thn (hl.run pins s1 σ H1 _ I1 q1) fun vl s2 ⟨l, H2, I2, pl, q2⟩ => thn (hu.run pins s2 σ H2 _ I2 q2) fun vu s3 ⟨u, H3, I3, pu, q3⟩ => thn (hk.run pins s3 σ H3 _ I3 q3) fun vk s4 ⟨k, H4, I4, pk, q4⟩ => ?_)
  obtain ⟨rfl, hu0, rfl, a, xs, rfl, hx, q⟩ := q4
  cases r1
  have I5 : Inv X pins σ H4 { s4 with heap := s4.heap.push { cls := .type "slice", data := .fields #[vl, vu, vk] } } := I4.kept (t' := s4.toks) fun b ob q => Heap.get?_push_of_some _ q
  obtain ⟨its, r, ht, hz⟩ := I5.list hx
  show wpAny (model X.prog X.w) X.A (subscriptTail e (.Slice lo hi (some st) p2) (.ref a) (.ref s4.heap.objs.size)) (EP X pins σ Q) X.xe { s4 with heap := s4.heap.push { cls := .type "slice", data := .fields #[vl, vu, vk] } }
  refine tail_any (ops := [.ref a, .ref s4.heap.objs.size]) ht.isList.typeIs slot_list_getitem.lookup ?_ (by with_unfolding_all rfl)
  refine wpAny_getItem_list_slice ht.isList (Heap.IsSliceOf.new ..) pl pu pk (by simp) ?_ (by rw [List.size_toArray, ← r.length]; exact hz)
  have e : slicePick its.toArray none u (some (-1)) = (match u with | none => its.reverse | some _ => (its.drop 1).reverse).toArray := by
    rcases hu0 with rfl | rfl
    · exact pick_rev its
    · exact pick_down its
  rw [e]
  refine ⟨.ref _, _, I5.laid (t' := s4.toks) (o := .lst (downV xs u)) (fun b ob q => Heap.get?_push_of_some _ q) (Nat.le_refl _) ?_, rfl, q _ (I5.hok.fresh (Nat.le_refl _))⟩
  have hlen := r.length
  rcases hu0 with rfl | rfl
  · exact ⟨by unfold downV; rw [List.length_reverse]; omega, _, 0, r.reverse, Heap.get?_push_size _ rfl⟩
  · exact ⟨by unfold downV; rw [List.length_reverse, List.length_drop]; omega, _, 0, (r.drop 1).reverse, Heap.get?_push_size _ rfl⟩
section
variable {B : Base} {K : PySem.W.Frag} {σ : AEnv} {M : List MO} {te : TE} {tl th tk : TO} {Φ : AV → List MO → Prop}
theorem RDs.down {W : Hp} {l : List D} {vs : List V} (h : RDs K W l vs) (u : Option Int) : RDs K W (downD l u) (downV vs u) := by
  cases u with
  | none => exact RDs.rev h
  | some i => exact RDs.rev (RDs.drop 1 h)
/-- of a list told as data, or of one that may change: a new list -/
theorem ae_sliceR (h : AE B K te σ M fun x M1 => ∃ l, (x = .d (.lst l) ∨ ∃ k, x = .m k ∧ M1[k]? = some (.lst l)) ∧ AO B K tl σ M1 fun lo M2 => M2 = M1 ∧ AO B K th σ M1 fun hi M3 => M3 = M1 ∧ AO B K tk σ M1 fun st M4 => M4 = M1 ∧ lo = none ∧ (hi = none ∨ hi = some 0) ∧ st = some (-1) ∧ Φ (.d (.lst (downD l hi))) M1) :
    AE B K (tSlR K te tl th tk) σ M Φ := fun W μ H τ o s e Q q =>
  h W μ H τ o s e _ fun x M1 W1 μ1 H1 v ⟨l, e1, p⟩ f1 r1 => by
    refine p W1 μ1 H1 τ f1.ok f1.sim (f1.re e) _ fun lo M2 W2 μ2 H2 ⟨em2, p2⟩ f2 => ?_
    subst em2
    refine p2 W2 μ2 H2 τ f2.ok f2.sim ((f1.trans f2).re e) _ fun hi M3 W3 μ3 H3 ⟨em3, p3⟩ f3 => ?_
    subst em3
    refine p3 W3 μ3 H3 τ f3.ok f3.sim (((f1.trans f2).trans f3).re e) _ fun st M4 W4 μ4 H4 ⟨em4, h1, h2, h3, p4⟩ f4 => ⟨h1, h2, h3, ?_⟩
    subst em4
    have f24 := (f2.trans f3).trans f4
    have key : ∃ a vs, v = .ref a ∧ SqL K H4 a vs ∧ RDs K W4 l vs := by
      rcases e1 with rfl | ⟨k, rfl, hk⟩
      · obtain ⟨a, vs, rfl, z1, z2⟩ := r1
        exact ⟨a, vs, rfl, SqL.of (f4.sim.sub _ _ (f24.wext _ _ z1)), RDs.mono f24.wext z2⟩
      · obtain ⟨a, ha, rfl⟩ := r1
        have ha4 : μ4[k]? = some a := by
          obtain ⟨ext, e5⟩ := f24.mext
          rw [e5, List.getElem?_append_left (List.getElem?_eq_some_iff.mp ha).1]
          exact ha
        obtain ⟨vs, z1, z2⟩ := f4.sim.ob k a (.lst l) ha4 hk
        exact ⟨a, vs, rfl, SqL.of z1, z2⟩
    obtain ⟨a, vs, rfl, z1, z2⟩ := key
    refine ⟨a, vs, rfl, z1, fun p hp => ?_⟩
    have g := go_new (u := .lst (downV vs hi)) f4.ok f4.sim hp
    exact q _ _ _ _ _ _ p4 (f1.trans (f24.trans g)) ⟨p, _, rfl, upd_same, (RDs.mono g.wext z2).down hi⟩
end
end Al
namespace Dt
open PySem PySem.Spec PyProof.Rows L2
section
variable {prog : Program} {w : World} {κ : Type} [DecidableEq κ] {knd : HeapKind prog w κ} {A : Around} {E : Value → Shared → Prop} {s : Shared}
/-- dicts of unlike lengths -/
theorem unlike_H {nm : String} {a b : Addr} {xs ys : List (κ × Addr × Value)} {Q : Bool → Shared → Prop} (ha : (a == sysModules) = false) (hb : (b == sysModules) = false) (da : s.heap.DictOfH knd a xs) (db : s.heap.DictOfH knd b ys)
    (hl : xs.length ≠ ys.length) (h : Q false s) : wpAny (model prog w) A (Builtin.Dict.samePairs nm a b) Q E s := by
  obtain ⟨oa, ea, na, a1, _, a3, a4, a5, _⟩ := da
  obtain ⟨ob, eb, nb, b1, _, b3, b4, b5, b6⟩ := db
  have la := size_of_entries a4
  have lb := size_of_entries b4
  have hs : ea.size ≠ eb.size := by omega
  unfold Builtin.Dict.samePairs Builtin.Dict.showsAll
  rw [ha, hb]
  simp only [Bool.false_eq_true, if_false]
  refine wpAny_bind (wpAny_pure (wpAny_bind (wpAny_pure (wpAny_bind (wpAny_dictEntries a1 a3 (wpAny_bind (wpAny_dictEntries b1 b3 ?_)))))))
  rw [if_pos (by simpa using hs)]
  exact wpAny_bind (wpAny_rule (wpAny_pure h))
end
section
variable {X : Cx}
/-- d != {} -/
def rNe0 : R2 := fun x y H Q => ∃ a b kvs, x = .ref a ∧ y = .ref b ∧ Rd H a (.dT kvs) ∧ Rd H b (.dT []) ∧ Q (.bl (!kvs.isEmpty)) H
theorem op_ne0 (hu : X.A.units + 1 < cLine) : OpR X (compareOp .NotEq) rNe0 := by
  intro pins s σ H x y v u Q I rx ry h
  obtain ⟨a, b, kvs, rfl, rfl, ea, eb, q⟩ := h
  obtain rfl : v = Value.ref a := rx
  obtain rfl : u = Value.ref b := ry
  obtain ⟨_, ha, xs, ra, da⟩ := dt_rd I.hok ea
  obtain ⟨_, hb, ys, rb, db⟩ := dt_rd I.hok eb
  refine wpAny_richCompare_same_room (op := .NotEq) da.typeIs db.typeIs PySem.F.slot_dict_ne (wpAny_call_entry PySem.F.slot_dict_ne da.typeIs PySem.F.entry_dict_ne ?_ (PySem.F.args_dict_ne_2 _ _)) (by omega)
  show wpAny _ _ (Builtin.Dict.dictSlotArgs "__ne__" ⟨[.ref a, .ref b], []⟩ >>= _) _ _ s
  unfold Builtin.Dict.dictSlotArgs
  refine wpAny_bind (wpAny_bind (wpAny_notOrdered_dict da.typeIs ?_))
  show wpAny _ _ (pure (Value.ref a, Value.ref b)) _ _ s
  refine wpAny_pure (wpAny_bind (wpAny_isInstance (T := "dict") db.typeIs PySem.F.sub_dict_dict ?_))
  simp only [Bool.not_true, Bool.false_eq_true, if_false]
  have l2 : ys.length = 0 := by rw [← Paired.length rb]; rfl
  have l1 := Paired.length ra
  cases kvs with
  | nil =>
    refine wpAny_bind (wpAny_pure (wpAny_bind (wpAny_pure (wpAny_bind (same_H (tupleKind_room_in1 hu) ha hb da db (by rw [l2, ← l1]; rfl) (fun x hx => ?_) ?_)))))
    · have : xs = [] := List.eq_nil_of_length_eq_zero l1.symm
      subst this
      cases hx
    · exact wpAny_pure ⟨_, rfl, (fun x => nomatch x), fin_bl I q rfl⟩
  | cons p kvs =>
    refine wpAny_bind (wpAny_pure (wpAny_bind (wpAny_pure (wpAny_bind (unlike_H ha hb da db (by rw [l2, ← l1]; simp) ?_)))))
    exact wpAny_pure ⟨_, rfl, (fun x => nomatch x), fin_bl I q rfl⟩
end
end Dt
namespace Al
open PySem PySem.Spec PyProof.Rows L2 Gx Dt
variable [Al.TabList]
theorem k_ne0 {X : Cx} (hu : X.A.units + 64 < cLine) : OpR X (compareOp .NotEq) rNe0 := op_ne0 (by omega)
section
variable {B : Base} {K : PySem.W.Frag} {M : List MO} {x y : AV} {Φ : AV → List MO → Prop}
theorem ar_ne0 {kvs : KD} (h : DV M x kvs) (h' : DV M y []) (k : Φ (.d (.bl (!kvs.isEmpty))) M) : AR B K rNe0 x y M Φ := fun W μ H u w o s hu hw Q q => by
  obtain ⟨a, cvs, rfl, h1, h2⟩ := h.run s hu
  obtain ⟨b, dvs, rfl, h3, h4⟩ := h'.run s hw
  obtain rfl : dvs = [] := by
    cases dvs with
    | nil => rfl
    | cons a b => exact h4.elim
  have e : kvs.isEmpty = cvs.isEmpty := by
    have := h2.len
    cases kvs <;> cases cvs <;> first | rfl | (simp at this)
  rw [e] at k
  exact ⟨a, b, cvs, rfl, rfl, h1, h3, q _ _ _ _ _ _ k (.refl o s) rfl⟩
end
end Al
namespace Al
open PySem PySem.Spec PyProof.Rows Gx Dt Lm Cb NdefX Nd
open L2 hiding putK
variable [Al.TabList]
theorem k_notInT (K : PySem.W.Frag) {X : Cx} {k : Nat} (hr : L2.Room k X.A) (hK : X.K = K := by rfl) : OpR X (compareOp .NotIn) (L2.rNotInD K) := by
  subst hK
  exact L2.op_notInD (by have := hr.un; omega)
section
variable {B : Base} {K : PySem.W.Frag} {σ : AEnv} {M : List MO} {te : TE} {x y : AV} {Φ : AV → List MO → Prop}
theorem toP_pk (c : Cell) : toP (pk c) = .tuple [.int c.1, .int c.2] := by simp [toP, key2, keyP]
theorem shaped_pair (c : Cell) : SeqAt.shaped (toP (pk c)) = true := by
  rw [toP_pk]
  unfold SeqAt.shaped
  simp [PyData.canLay0, PyData.canLayAll0, PyData.depth, PyData.depthAll]
theorem eqv_pair (a b : Cell) : PyData.eqv (toP (pk a)) (toP (pk b)) = decide (a = b) := by
  rw [toP_pk, toP_pk]
  simp only [PyData.eqv, PyData.eqvAll, Bool.and_true]
  by_cases h : a = b
  · subst h; simp
  · rw [decide_eq_false h]
    by_cases h1 : a.1 = b.1
    · have h2 : a.2 ≠ b.2 := fun e => h (Prod.ext h1 e)
      simp [h2]
    · simp [h1]
theorem ur_notInP {c : Cell} {ps : List Cell} (hy : LP M y ps) (k : Φ (.d (.bl (!decide (c ∈ ps)))) M) : AR B K (L2.rNotInD K) (.d (pk c)) y M Φ := fun W μ H u w o s hu hw Q q => by
  refine ⟨toP (pk c), toPs (ps.map pk), (PV.d (M := M) (x := pk c) rfl).run s hu, hy.pv.run s hw, shaped_pair c, shaped_pairs ps, ?_⟩
  have e : ((toPs (ps.map pk)).any fun z => PyData.eqv z (toP (pk c))) = decide (c ∈ ps) := by
    clear k hy
    induction ps with
    | nil => simp [toPs]
    | cons p ps ih =>
      have e2 : toPs ((p :: ps).map pk) = toP (pk p) :: toPs (ps.map pk) := rfl
      rw [e2, List.any_cons, ih, eqv_pair]
      by_cases h : p = c
      · subst h; simp
      · rw [decide_eq_false h]
        have : ¬ c = p := fun z => h z.symm
        simp [this]
  rw [e]
  exact q _ _ _ _ _ _ k (.refl o s) rfl
end
end Al
namespace Al
open PySem PySem.Spec PyProof.Rows L2 Gx Dt
variable [Al.TabList]
theorem valG_putG {kvs : KD} {k k' : List Key} {d : D} : valG (putG kvs k d) k' = if k' = k then some d else valG kvs k' := by
  unfold putG valG
  by_cases hk : kvs.any (fun p => decide (p.1 = k)) = true
  · rw [if_pos hk]
    by_cases e : k' = k
    · rw [if_pos e]
      subst e
      induction kvs with
      | nil => simp at hk
      | cons p kvs ih =>
        rw [List.map_cons, List.find?_cons]
        by_cases hp : p.1 = k'
        · simp [hp]
        · have : kvs.any (fun p => decide (p.1 = k')) = true := by simpa [hp] using hk
          simp only [hp, decide_false, if_false, Bool.false_eq_true]
          exact ih this
    · rw [if_neg e]
      clear hk
      induction kvs with
      | nil => rfl
      | cons p kvs ih =>
        rw [List.map_cons, List.find?_cons, List.find?_cons]
        by_cases hp : p.1 = k
        · have h1 : ¬ k = k' := fun z => e z.symm
          simp only [hp, h1, decide_false, if_true]
          simpa [hp] using ih
        · rw [if_neg hp]
          by_cases hq : p.1 = k'
          · rw [decide_eq_true hq]
          · rw [decide_eq_false hq]
            exact ih
  · rw [if_neg hk]
    rw [List.find?_append]
    by_cases e : k' = k
    · rw [if_pos e]
      subst e
      have : kvs.find? (fun p => decide (p.1 = k')) = none := by
        rw [List.find?_eq_none]
        intro p hp z
        exact hk (List.any_eq_true.mpr ⟨p, hp, z⟩)
      rw [this]
      simp
    · rw [if_neg e]
      have h1 : ¬ k = k' := fun z => e z.symm
      cases q : kvs.find? (fun p => decide (p.1 = k')) with
      | some p => simp
      | none => simp [h1]
theorem valG_iff {kvs : KD} {k : List Key} : (valG kvs k).isSome = true ↔ ∃ p ∈ kvs, p.1 = k := by
  unfold valG
  rw [Option.isSome_map, List.find?_isSome]
  constructor
  · rintro ⟨p, hp, e⟩
    exact ⟨p, hp, of_decide_eq_true e⟩
  · rintro ⟨p, hp, e⟩
    exact ⟨p, hp, decide_eq_true e⟩
theorem storG_some {k : List Key} {d : D} : ∀ {ps : List (List Key × D)} {acc : KD}, valG (storG acc ps) k = some d → valG acc k = some d ∨ (k, d) ∈ ps
  | [], acc, h => .inl h
  | p :: ps, acc, h => by
    rcases storG_some (ps := ps) (acc := putG acc p.1 p.2) h with h1 | h1
    · rw [valG_putG] at h1
      by_cases e : k = p.1
      · rw [if_pos e] at h1
        refine .inr (List.mem_cons.mpr (.inl ?_))
        rw [e, ← Option.some.inj h1]
      · rw [if_neg e] at h1
        exact .inl h1
    · exact .inr (List.mem_cons_of_mem _ h1)
theorem storG_has {k : List Key} : ∀ {ps : List (List Key × D)} {acc : KD}, ((valG acc k).isSome = true ∨ ∃ d, (k, d) ∈ ps) → (valG (storG acc ps) k).isSome = true
  | [], acc, h => by
    rcases h with h | ⟨d, h⟩
    · exact h
    · cases h
  | p :: ps, acc, h => by
    refine storG_has (ps := ps) (acc := putG acc p.1 p.2) ?_
    rw [valG_putG]
    by_cases e : k = p.1
    · rw [if_pos e]; exact .inl rfl
    · rw [if_neg e]
      rcases h with h | ⟨d, h⟩
      · exact .inl h
      · rcases List.mem_cons.mp h with h | h
        · exact absurd (by rw [← h]) e
        · exact .inr ⟨d, h⟩
end Al
namespace Dt
open PySem PySem.Spec PyProof.Rows L2
end Dt
namespace Al
open PySem PySem.Spec PyProof.Rows L2 Gx Dt
variable [Al.TabList]
theorem RK.fst {K : PySem.W.Frag} {W : Hp} : ∀ {kvs : KD} {cvs : List (List Key × V)}, RK K W kvs cvs → cvs.map Prod.fst = kvs.map Prod.fst
  | [], [], _ => rfl
  | [], _ :: _, h => h.elim
  | _ :: _, [], h => h.elim
  | a :: kvs, b :: cvs, ⟨h1, _, h3⟩ => by rw [List.map_cons, List.map_cons, RK.fst h3, h1]
section
variable {B : Base} {K : PySem.W.Frag} {σ : AEnv} {M : List MO} {te : TE} {Φ : AV → List MO → Prop}
/-- what was made will not change -/
theorem ae_froz {n : Nat} (hn : M.length ≤ n) (h : AE B K te σ M fun x M1 => ∃ y, Froz n M1 x y ∧ (∀ o ∈ M1.take n, o.below n = true) ∧ Φ y (M1.take n)) : AE B K te σ M Φ := fun W μ H τ o s e Q q =>
  h W μ H τ o s e Q fun x M1 W1 μ1 H1 v ⟨y, hf, hb, p⟩ f1 r1 => by
    have hμ : μ.length ≤ n := by rw [s.len]; exact hn
    have hB : B.μ0.length ≤ n := by
      obtain ⟨ext, e1, _⟩ := o.pre
      have := congrArg List.length e1
      rw [List.length_append] at this
      omega
    obtain ⟨W2, g, r⟩ := froz_run f1 hμ hB hb hf r1
    exact q _ _ _ _ _ _ p g r
end
end Al
namespace Al
open PySem PySem.Spec PyProof.Rows L2 Gx Dt
end Al
namespace Al
open PySem PySem.Spec PyProof.Rows L2 Gx Lm Cb NdefX Dt Nd
variable [Al.TabList]
section
variable {B : Base} {K : PySem.W.Frag} {σ : AEnv} {M : List MO} {x y : AV} {ta tb : TE} {Φ : AV → List MO → Prop}
theorem toP_pkC (c : Cell) : toP (pk c) = .tuple [.int c.1, .int c.2] := by simp [toP, key2, keyP]
theorem shaped_pkC (c : Cell) : SeqAt.shaped (toP (pk c)) = true := by
  rw [toP_pkC]
  unfold SeqAt.shaped
  simp [PyData.canLay0, PyData.canLayAll0, PyData.depth, PyData.depthAll]
theorem eqv_pkC (a b : Cell) : PyData.eqv (toP (pk a)) (toP (pk b)) = decide (a = b) := by
  have h := eqv_pairs [a] [b]
  simp only [List.map_cons, List.map_nil, toPs, PyData.eqvAll, Bool.and_true] at h
  rw [h]
  by_cases e : a = b
  · subst e; simp
  · simp [e]
theorem ur_neC {a b : Cell} (k : Φ (.d (.bl (!decide (a = b)))) M) : AR B K (uNe K) (.d (pk a)) (.d (pk b)) M Φ :=
  ur_neP (.d (x := pk a) rfl) (.d (x := pk b) rfl) (shaped_pkC a) (shaped_pkC b) (by rw [eqv_pkC]; exact k)
end
end Al
namespace Wd
open PySem PyProof.Rows L2 Al
variable [Al.TabList]
theorem sc_is_whole : FnScope ["thing"] ["thing"] (defScope (top 4)) := ⟨rfl, rfl, rfl, by decide +kernel, rfl, by decide +kernel, by decide +kernel⟩
theorem sc_is_from : FnScope ["thing", "least", "most"] ["thing", "least", "most"] (defScope (top 5)) := ⟨rfl, rfl, rfl, by decide +kernel, rfl, by decide +kernel, by decide +kernel⟩
theorem sc_is_size : FnScope ["thing"] ["thing"] (defScope (top 12)) := ⟨rfl, rfl, rfl, by decide +kernel, rfl, by decide +kernel, by decide +kernel⟩
/-- things of Python's own -/
def flatD : D → Bool | .non => true | .bl _ => true | .int _ => true | .str _ => true | .tup _ => true | .lst _ => true | .scr _ => true | _ => false
def wholeB : D → Bool | .int _ => true | _ => false
def fromB (lo hi : Int) : D → Bool | .int i => decide (lo ≤ i) && decide (i ≤ hi) | _ => false
def aWhole : ASp := fun xs M Φ _ => ∃ x : D, xs = [.d x] ∧ M = [] ∧ flatD x = true ∧ Φ (.d (.bl (wholeB x))) []
theorem mono_whole : Mono aWhole := fun xs M Φ Φ' Ψ Ψ' h1 _ ⟨x, e1, e2, e3, p⟩ => ⟨x, e1, e2, e3, h1 _ _ p⟩
def aFrom : ASp := fun xs M Φ _ => ∃ (x : D) (lo hi : Int), xs = [.d x, .d (.int lo), .d (.int hi)] ∧ M = [] ∧ flatD x = true ∧ Φ (.d (.bl (fromB lo hi x))) []
theorem mono_from : Mono aFrom := fun xs M Φ Φ' Ψ Ψ' h1 _ ⟨x, lo, hi, e1, e2, e3, p⟩ => ⟨x, lo, hi, e1, e2, e3, h1 _ _ p⟩
def aSize : ASp := fun xs M Φ _ => ∃ (x : D), xs = [.d x] ∧ M = [] ∧ flatD x = true ∧ Φ (.d (.bl (fromB 1 60 x))) []
theorem mono_size : Mono aSize := fun xs M Φ Φ' Ψ Ψ' h1 _ ⟨x, e1, e2, e3, p⟩ => ⟨x, e1, e2, e3, h1 _ _ p⟩
theorem flat_ty {K : PySem.W.Frag} {x : D} (h : flatD x = true) : TyL K x := by cases x <;> first | exact True.intro | cases h
/-- a promise with nothing handed in but data -/
theorem rt_d {Φ : AV → List MO → Prop} {d : D} (h : Φ (.d d) []) : RT 0 Φ (.d d) [] := Or.inl ⟨0, .d d, Nat.le_refl _, .dat, by simp, h⟩
local macro_rules | `(tactic| walk_at "alside") => `(tactic| first
  | decide
  | (dsimp only; decide)
  | exact Or.inr (by decide)
  | exact Or.inl (by decide)
  | (dsimp only; omega)
  | (unfold CDiv; omega)
  | (unfold CPow; omega)
  | (unfold CMul; omega)
  | assumption)
local macro_rules | `(tactic| walk_at "al1") => `(tactic| first
  | with_reducible refine as_asg ?_
  | with_reducible refine as_drop ?_
  | with_reducible refine as_ret ?_
  | with_reducible refine as_if ?_
  | with_reducible refine as_next ?_
  | with_reducible refine at_test ?_
  | with_reducible refine at_b ?_
  | with_reducible refine at_and ?_
  | with_reducible refine at_or ?_
  | with_reducible refine at_not ?_
  | with_reducible refine ae_op ?_
  | with_reducible refine ae_un ?_
  | with_reducible refine ae_cb ?_
  | with_reducible refine ae_if ?_
  | with_reducible refine ae_andV ?_
  | with_reducible refine ae_orV ?_
  | with_reducible refine ae_notV ?_
  | with_reducible refine ae_chain ?_
  | with_reducible refine ae_int ?_
  | with_reducible refine ae_bl ?_
  | with_reducible refine ae_non ?_
  | with_reducible refine ae_str ?_
  | with_reducible refine ae_ty ?_
  | with_reducible refine ae_adr ?_
  | with_reducible refine aa_nil ?_
  | with_reducible refine aa_cons ?_
  | with_reducible refine ag_name ?_
  | with_reducible refine ag_sub ?_
  | with_reducible refine at_yes ?_
  | ((with_reducible show AE _ _ (tVar _) _ _ _); refine ae_var rfl ?_)
  | ((with_reducible show AR _ _ (uAdd _) _ _ _ _); refine ur_addI ?_)
  | ((with_reducible show AR _ _ (uMul _) _ _ _ _); refine ur_mulI (by walk_at "alside") ?_)
  | ((with_reducible show AR _ _ (uEq _) _ _ _ _); first | refine ur_eqI ?_ | refine ur_eqS ?_ | refine ur_eqB ?_)
  | ((with_reducible show AR _ _ (uNe _) _ _ _ _); first | refine ur_neI ?_ | refine ur_neS ?_ | refine ur_neB ?_)
  | ((with_reducible show AR _ _ (rIx _) _ _ _ _); first | refine ur_ixM rfl rfl ?_ | refine ur_ixL rfl ?_ | refine ur_ixT rfl ?_ | refine ur_ixS rfl ?_)
  | ((with_reducible show AC _ _ (uLen _) _ _ _); first | refine uc_len (.tup _) ?_ | refine uc_len (.lst _) ?_ | refine uc_len (.scr _) ?_ | refine uc_len (.mm rfl) ?_)
  | ((with_reducible show AR _ _ (rI0 _) _ _ _ _); first | with_reducible refine ar_i0 ?_ | with_reducible refine ar_b0 ?_)
  | ((with_reducible show AU _ _ (rU _) _ _ _); with_reducible refine au_i ?_)
  | ((with_reducible show AR _ _ (rI _ _) _ _ _ _); refine ar_i (by walk_at "alside") ?_)
  | ((with_reducible show AR _ _ (rIxL _) _ _ _ _); first | refine ar_ixM rfl rfl ?_ | refine ar_ixL rfl ?_ | refine ar_ixS rfl ?_)
  | ((with_reducible show AR _ _ (rIxT _) _ _ _ _); refine ar_ixT rfl ?_)
  | ((with_reducible show AR _ _ rEq _ _ _ _); first | with_reducible refine ar_eqI ?_ | with_reducible refine ar_eqS ?_ | with_reducible refine ar_eqB ?_)
  | ((with_reducible show AR _ _ rNe _ _ _ _); first | with_reducible refine ar_neI ?_ | with_reducible refine ar_neS ?_ | with_reducible refine ar_neB ?_))
local macro_rules | `(tactic| walk_at "alds") => `(tactic| first
  | refine ⟨[], rfl, Nat.le_of_ble_eq_true rfl, ?_⟩
  | refine ⟨[_], rfl, Nat.le_of_ble_eq_true rfl, ?_⟩
  | refine ⟨[_, _], rfl, Nat.le_of_ble_eq_true rfl, ?_⟩
  | refine ⟨[_, _, _], rfl, Nat.le_of_ble_eq_true rfl, ?_⟩
  | refine ⟨[_, _, _, _], rfl, Nat.le_of_ble_eq_true rfl, ?_⟩
  | refine ⟨[_, _, _, _, _], rfl, Nat.le_of_ble_eq_true rfl, ?_⟩
  | refine ⟨[_, _, _, _, _, _], rfl, Nat.le_of_ble_eq_true rfl, ?_⟩
  | refine ⟨[_, _, _, _, _, _, _], rfl, Nat.le_of_ble_eq_true rfl, ?_⟩
  | refine ⟨[_, _, _, _, _, _, _, _], rfl, Nat.le_of_ble_eq_true rfl, ?_⟩
  | refine ⟨[_, _, _, _, _, _, _, _, _], rfl, Nat.le_of_ble_eq_true rfl, ?_⟩
  | refine ⟨[_, _, _, _, _, _, _, _, _, _], rfl, Nat.le_of_ble_eq_true rfl, ?_⟩
  | refine ⟨[_, _, _, _, _, _, _, _, _, _, _], rfl, Nat.le_of_ble_eq_true rfl, ?_⟩
  | refine ⟨[_, _, _, _, _, _, _, _, _, _, _, _], rfl, Nat.le_of_ble_eq_true rfl, ?_⟩)
local macro_rules | `(tactic| walk_at "alc") => `(tactic| refine ae_call0 (Ψ := fun _ _ => False) (by walk_at "almono") efits_none ?_)
local macro_rules | `(tactic| walk_at "al") => `(tactic| repeat (first | walk_at "al1" | with_reducible refine as_seq ?_ | with_reducible refine ae_tup ?_ | with_reducible walk_at "alc" | refine ⟨_, rfl, ?_⟩ | walk_at "alds" | refine ⟨_, _, _, _, _, rfl, rfl, rfl, rfl, rfl, ?_⟩))
local macro_rules | `(tactic| walk_at "alF") => `(tactic| repeat (first | walk_at "al1" | with_reducible refine as_seq ?_ | with_reducible refine ae_tup ?_ | with_reducible refine ae_lst ?_ | with_reducible walk_at "alc" | refine ⟨_, rfl, ?_⟩ | walk_at "alds" | refine ⟨_, _, _, _, _, rfl, rfl, rfl, rfl, rfl, ?_⟩))
local macro_rules | `(tactic| walk_at "alo") => `(tactic| repeat (first | walk_at "al1" | with_reducible refine ae_tup ?_ | with_reducible walk_at "alc" | refine ⟨_, rfl, ?_⟩ | walk_at "alds" | refine ⟨_, _, _, _, _, rfl, rfl, rfl, rfl, rfl, ?_⟩))
local macro_rules | `(tactic| walk_at "almono") => `(tactic| first | exact mono_whole | exact mono_from | exact mono_size)
section
variable {P : Program} {w : World} {K : PySem.W.Frag} {mg : Str → Option Value} {base : Heap}
theorem ok_whole (D : DefAt K mg "is_whole" (top 4) ["thing"]) (T : Bt mg) : FnAt P w K mg base CX0 1 "is_whole" ["thing"] aWhole := by
  refine fnat D sc_is_whole (fun xs M Φ Ψ h => ?_) (fun f cdv A outer s H E hr => ⟨_, (pss_one (ps_ret (pe_and (pe_callB (k_isi K) (by rfl) T.isinstance (by decide +kernel) (pa_cons (pv 0) (pa_cons (pe_bltn (v := .ty "int") (by rfl) T.int (by decide +kernel) rfl) pa_nil))) (pe_one (pe_not (pe_callB (k_isi K) (by rfl) T.isinstance (by decide +kernel) (pa_cons (pv 0) (pa_cons (pe_bltn (v := .ty "bool") (by rfl) T.bool (by decide +kernel) rfl) pa_nil)))))))), fun B xs M Φ Ψ hB h => ?_⟩)
  · obtain ⟨x, rfl, _⟩ := h
    rfl
  · obtain ⟨x, rfl, rfl, hx, p⟩ := h
    walk_at "al"
    cases x with
    | non =>
      refine uc_isiB True.intro (b := false) (kit_ty (by decide +kernel)) ⟨_, rfl, (fun z => nomatch z), fun _ => ?_⟩
      exact rt_d p
    | bl b =>
      refine uc_isiB True.intro (b := true) (kit_ty (by decide +kernel)) ⟨_, rfl, fun _ => ?_, (fun z => nomatch z)⟩
      walk_at "al"
      refine uc_isiB True.intro (b := true) (kit_ty (by decide +kernel)) ⟨_, rfl, ?_⟩
      exact rt_d p
    | int i =>
      refine uc_isiB True.intro (b := true) (kit_ty (by decide +kernel)) ⟨_, rfl, fun _ => ?_, (fun z => nomatch z)⟩
      walk_at "al"
      refine uc_isiB True.intro (b := false) (kit_ty (by decide +kernel)) ⟨_, rfl, ?_⟩
      exact rt_d p
    | str i =>
      refine uc_isiB True.intro (b := false) (kit_ty (by decide +kernel)) ⟨_, rfl, (fun z => nomatch z), fun _ => ?_⟩
      exact rt_d p
    | tup i =>
      refine uc_isiB True.intro (b := false) (kit_ty (by decide +kernel)) ⟨_, rfl, (fun z => nomatch z), fun _ => ?_⟩
      exact rt_d p
    | lst i =>
      refine uc_isiB True.intro (b := false) (kit_ty (by decide +kernel)) ⟨_, rfl, (fun z => nomatch z), fun _ => ?_⟩
      exact rt_d p
    | scr i =>
      refine uc_isiB True.intro (b := false) (kit_ty (by decide +kernel)) ⟨_, rfl, (fun z => nomatch z), fun _ => ?_⟩
      exact rt_d p
    | _ => cases hx
theorem ok_from (D : DefAt K mg "is_from" (top 5) ["thing", "least", "most"]) (G_is_whole : FnAt P w K mg base CX0 1 "is_whole" ["thing"] aWhole) : FnAt P w K mg base CX0 2 "is_from" ["thing", "least", "most"] aFrom := by
  refine fnat D sc_is_from (fun xs M Φ Ψ h => ?_) (fun f cdv A outer s H E hr => ⟨_, (pss_one (ps_ret (pe_and (pe_fn G_is_whole (hr.mono (by decide)) rfl pass0 (pa_cons (pv 0) pa_nil)) (pe_one (pe_chain op_le op_le (pv 1) (pv 0) (pv 2)))))), fun B xs M Φ Ψ hB h => ?_⟩)
  · obtain ⟨x, lo, hi, rfl, _⟩ := h
    rfl
  · obtain ⟨x, lo, hi, rfl, rfl, hx, p⟩ := h
    walk_at "al"
    refine sent0 (ys := [x]) mono_whole ?_
    refine ⟨x, rfl, rfl, hx, rfl, _, rfl, _, rfl, fun hw => ?_, fun hw => ?_⟩
    · cases x with
      | int i =>
        walk_at "al"
        refine ⟨fun h1 => ?_, fun h1 => ?_⟩
        · walk_at "al"
          have : fromB lo hi (.int i) = decide (i ≤ hi) := by show (decide (lo ≤ i) && _) = _; rw [h1]; rfl
          rw [this] at p
          exact rt_d p
        · have : fromB lo hi (.int i) = false := by show (decide (lo ≤ i) && _) = _; rw [h1]; rfl
          rw [this] at p
          exact rt_d p
      | _ => cases hw
    · have : fromB lo hi x = false := by cases x <;> first | rfl | cases hw
      rw [this] at p
      exact rt_d p
theorem ok_size (D : DefAt K mg "is_size" (top 12) ["thing"]) (G_is_from : FnAt P w K mg base CX0 2 "is_from" ["thing", "least", "most"] aFrom) {t : Tok} (g_MOST_SIZE : mg "MOST_SIZE" = some (.int 60 t)) : FnAt P w K mg base CX0 3 "is_size" ["thing"] aSize := by
  refine fnat D sc_is_size (fun xs M Φ Ψ h => ?_) (fun f cdv A outer s H E hr => ⟨_, (pss_one (ps_ret (pe_fn G_is_from (hr.mono (by decide)) rfl pass0 (pa_cons (pv 0) (pa_cons pe_int (pa_cons (pe_glob (v := .int 60) rfl g_MOST_SIZE ⟨_, rfl⟩) pa_nil)))))), fun B xs M Φ Ψ hB h => ?_⟩)
  · obtain ⟨x, rfl, _⟩ := h
    rfl
  · obtain ⟨x, rfl, rfl, hx, p⟩ := h
    walk_at "al"
    refine sent0 (ys := [x, .int 1, .int 60]) mono_from ?_
    exact ⟨x, 1, 60, rfl, rfl, hx, rfl, _, rfl, rt_d p⟩
end
end Wd
namespace Wd
open PySem PyProof.Rows L2 Al
variable [Al.TabList]
theorem sc_are_hears : FnScope ["thing", "many", "room"] ["thing", "many"] (defScope (top 13)) := ⟨rfl, rfl, rfl, by decide +kernel, rfl, by decide +kernel, by decide +kernel⟩
theorem sc_rows_heard : FnScope ["rooms", "hears", "found", "room"] ["rooms", "hears"] (defScope (top 14)) := ⟨rfl, rfl, rfl, by decide +kernel, rfl, by decide +kernel, by decide +kernel⟩
def toI : D → Int | .int i => i | _ => 0
def hearsB (many : Int) : D → Bool
  | .tup l => decide (l.length ≤ 3) && (l.all (fromB 0 (many - 1)) && decide (l.map toI).Nodup)
  | _ => false
def flats : D → Bool | .tup l => l.all flatD | d => flatD d
def aHears : ASp := fun xs M Φ _ => ∃ (x : D) (many : Int), xs = [.d x, .d (.int many)] ∧ M = [] ∧ flats x = true ∧ Φ (.d (.bl (hearsB many x))) []
theorem mono_hears : Mono aHears := fun xs M Φ Φ' Ψ Ψ' h1 _ ⟨x, n, e1, e2, e3, p⟩ => ⟨x, n, e1, e2, e3, h1 _ _ p⟩
theorem flats_flat {x : D} (h : flats x = true) : flatD x = true := by cases x <;> first | rfl | exact h
theorem ints_of {n : Int} : ∀ {l : List D}, l.all (fromB 0 n) = true → l = (l.map toI).map D.int
  | [], _ => rfl
  | d :: l, h => by
    rw [List.all_cons, Bool.and_eq_true] at h
    have ih := ints_of h.2
    cases d with
    | int i => rw [List.map_cons, List.map_cons, ← ih]; rfl
    | _ => exact absurd h.1 Bool.false_ne_true
theorem len_le {out : List Int} : ∀ {ns : List Int}, out.Nodup → (∀ k ∈ out, k ∈ ns) → out.length ≤ ns.length := by
  induction out with
  | nil => intro ns _ _; exact Nat.zero_le _
  | cons a o ih =>
    intro ns nd hs
    obtain ⟨ha, ho⟩ := List.nodup_cons.mp nd
    have hm := hs a List.mem_cons_self
    have := ih (ns := ns.erase a) ho fun k hk => (List.mem_erase_of_ne (fun (e : k = a) => ha (e ▸ hk))).mpr (hs k (List.mem_cons_of_mem _ hk))
    rw [List.length_erase_of_mem hm] at this
    have hp := List.length_pos_of_mem hm
    rw [List.length_cons]
    omega
theorem nd_len {out : List Int} : ∀ {ns : List Int}, out.Nodup → (∀ k ∈ out, k ∈ ns) → out.length = ns.length → ns.Nodup := by
  induction out with
  | nil => intro ns _ _ h; rw [List.eq_nil_of_length_eq_zero h.symm]; exact List.nodup_nil
  | cons a o ih =>
    intro ns nd hs hl
    obtain ⟨ha, ho⟩ := List.nodup_cons.mp nd
    have hm := hs a List.mem_cons_self
    have hp := List.length_pos_of_mem hm
    have hsub : ∀ k ∈ o, k ∈ ns.erase a := fun k hk => (List.mem_erase_of_ne (fun (e : k = a) => ha (e ▸ hk))).mpr (hs k (List.mem_cons_of_mem _ hk))
    have he := List.length_erase_of_mem hm
    rw [List.length_cons] at hl
    have h1 := ih (ns := ns.erase a) ho hsub (by rw [he]; omega)
    refine (List.perm_cons_erase hm).nodup_iff.mpr (List.nodup_cons.mpr ⟨fun h2 => ?_, h1⟩)
    have h3 := len_le (ns := (ns.erase a).erase a) ho fun k hk => (List.mem_erase_of_ne (fun (e : k = a) => ha (e ▸ hk))).mpr (hsub k hk)
    rw [List.length_erase_of_mem h2, he] at h3
    have h4 := List.length_pos_of_mem h2
    rw [he] at h4
    omega
theorem nodup_len {ns out : List Int} (nd : out.Nodup) (hm : ∀ k, k ∈ out ↔ k ∈ ns) : decide (((out.length : Nat) : Int) = (ns.length : Int)) = decide ns.Nodup := by
  by_cases h : ns.Nodup
  · have e : out.length = ns.length := Nat.le_antisymm (len_le nd fun k hk => (hm k).mp hk) (len_le h fun k hk => (hm k).mpr hk)
    rw [decide_eq_true h, decide_eq_true (by rw [e])]
  · rw [decide_eq_false h, decide_eq_false]
    intro e
    exact h (nd_len nd (fun k hk => (hm k).mp hk) (by omega))
def tupB : D → Bool | .tup _ => true | _ => false
theorem tup_ty {K : PySem.W.Frag} {x : D} (h : flatD x = true) : PySem.W.kitOne K (tyD x) (.type "tuple") = some (tupB x) := by
  cases x with
  | non => exact kit_ty (show kitB "NoneType" "tuple" = some false from by decide +kernel)
  | bl b => exact kit_ty (show kitB "bool" "tuple" = some false from by decide +kernel)
  | int i => exact kit_ty (show kitB "int" "tuple" = some false from by decide +kernel)
  | str y => exact kit_ty (show kitB "str" "tuple" = some false from by decide +kernel)
  | tup l => exact kit_ty (show kitB "tuple" "tuple" = some true from by decide +kernel)
  | lst l => exact kit_ty (show kitB "list" "tuple" = some false from by decide +kernel)
  | scr l => exact kit_ty (show kitB "list" "tuple" = some false from by decide +kernel)
  | _ => cases h
local macro_rules | `(tactic| walk_at "alside") => `(tactic| first
  | decide
  | (dsimp only; decide)
  | exact Or.inr (by decide)
  | exact Or.inl (by decide)
  | (dsimp only; omega)
  | (unfold CDiv; omega)
  | (unfold CPow; omega)
  | (unfold CMul; omega)
  | assumption)
local macro_rules | `(tactic| walk_at "al1") => `(tactic| first
  | with_reducible refine as_asg ?_
  | with_reducible refine as_drop ?_
  | with_reducible refine as_ret ?_
  | with_reducible refine as_if ?_
  | with_reducible refine as_next ?_
  | with_reducible refine at_test ?_
  | with_reducible refine at_b ?_
  | with_reducible refine at_and ?_
  | with_reducible refine at_or ?_
  | with_reducible refine at_not ?_
  | with_reducible refine ae_op ?_
  | with_reducible refine ae_un ?_
  | with_reducible refine ae_cb ?_
  | with_reducible refine ae_if ?_
  | with_reducible refine ae_andV ?_
  | with_reducible refine ae_orV ?_
  | with_reducible refine ae_notV ?_
  | with_reducible refine ae_chain ?_
  | with_reducible refine ae_int ?_
  | with_reducible refine ae_bl ?_
  | with_reducible refine ae_non ?_
  | with_reducible refine ae_str ?_
  | with_reducible refine ae_ty ?_
  | with_reducible refine ae_adr ?_
  | with_reducible refine aa_nil ?_
  | with_reducible refine aa_cons ?_
  | with_reducible refine ag_name ?_
  | with_reducible refine ag_sub ?_
  | with_reducible refine at_yes ?_
  | ((with_reducible show AE _ _ (tVar _) _ _ _); refine ae_var rfl ?_)
  | ((with_reducible show AR _ _ (uAdd _) _ _ _ _); refine ur_addI ?_)
  | ((with_reducible show AR _ _ (uMul _) _ _ _ _); refine ur_mulI (by walk_at "alside") ?_)
  | ((with_reducible show AR _ _ (uEq _) _ _ _ _); first | refine ur_eqI ?_ | refine ur_eqS ?_ | refine ur_eqB ?_)
  | ((with_reducible show AR _ _ (uNe _) _ _ _ _); first | refine ur_neI ?_ | refine ur_neS ?_ | refine ur_neB ?_)
  | ((with_reducible show AR _ _ (rIx _) _ _ _ _); first | refine ur_ixM rfl rfl ?_ | refine ur_ixL rfl ?_ | refine ur_ixT rfl ?_ | refine ur_ixS rfl ?_)
  | ((with_reducible show AC _ _ (uLen _) _ _ _); first | refine uc_len (.tup _) ?_ | refine uc_len (.lst _) ?_ | refine uc_len (.scr _) ?_ | refine uc_len (.mm rfl) ?_)
  | ((with_reducible show AR _ _ (rI0 _) _ _ _ _); first | with_reducible refine ar_i0 ?_ | with_reducible refine ar_b0 ?_)
  | ((with_reducible show AU _ _ (rU _) _ _ _); with_reducible refine au_i ?_)
  | ((with_reducible show AR _ _ (rI _ _) _ _ _ _); refine ar_i (by walk_at "alside") ?_)
  | ((with_reducible show AR _ _ (rIxL _) _ _ _ _); first | refine ar_ixM rfl rfl ?_ | refine ar_ixL rfl ?_ | refine ar_ixS rfl ?_)
  | ((with_reducible show AR _ _ (rIxT _) _ _ _ _); refine ar_ixT rfl ?_)
  | ((with_reducible show AR _ _ rEq _ _ _ _); first | with_reducible refine ar_eqI ?_ | with_reducible refine ar_eqS ?_ | with_reducible refine ar_eqB ?_)
  | ((with_reducible show AR _ _ rNe _ _ _ _); first | with_reducible refine ar_neI ?_ | with_reducible refine ar_neS ?_ | with_reducible refine ar_neB ?_))
local macro_rules | `(tactic| walk_at "alds") => `(tactic| first
  | refine ⟨[], rfl, Nat.le_of_ble_eq_true rfl, ?_⟩
  | refine ⟨[_], rfl, Nat.le_of_ble_eq_true rfl, ?_⟩
  | refine ⟨[_, _], rfl, Nat.le_of_ble_eq_true rfl, ?_⟩
  | refine ⟨[_, _, _], rfl, Nat.le_of_ble_eq_true rfl, ?_⟩
  | refine ⟨[_, _, _, _], rfl, Nat.le_of_ble_eq_true rfl, ?_⟩
  | refine ⟨[_, _, _, _, _], rfl, Nat.le_of_ble_eq_true rfl, ?_⟩
  | refine ⟨[_, _, _, _, _, _], rfl, Nat.le_of_ble_eq_true rfl, ?_⟩
  | refine ⟨[_, _, _, _, _, _, _], rfl, Nat.le_of_ble_eq_true rfl, ?_⟩
  | refine ⟨[_, _, _, _, _, _, _, _], rfl, Nat.le_of_ble_eq_true rfl, ?_⟩
  | refine ⟨[_, _, _, _, _, _, _, _, _], rfl, Nat.le_of_ble_eq_true rfl, ?_⟩
  | refine ⟨[_, _, _, _, _, _, _, _, _, _], rfl, Nat.le_of_ble_eq_true rfl, ?_⟩
  | refine ⟨[_, _, _, _, _, _, _, _, _, _, _], rfl, Nat.le_of_ble_eq_true rfl, ?_⟩
  | refine ⟨[_, _, _, _, _, _, _, _, _, _, _, _], rfl, Nat.le_of_ble_eq_true rfl, ?_⟩)
local macro_rules | `(tactic| walk_at "alc") => `(tactic| refine ae_call0 (Ψ := fun _ _ => False) (by walk_at "almono") efits_none ?_)
local macro_rules | `(tactic| walk_at "al") => `(tactic| repeat (first | walk_at "al1" | with_reducible refine as_seq ?_ | with_reducible refine ae_tup ?_ | with_reducible walk_at "alc" | refine ⟨_, rfl, ?_⟩ | walk_at "alds" | refine ⟨_, _, _, _, _, rfl, rfl, rfl, rfl, rfl, ?_⟩))
local macro_rules | `(tactic| walk_at "alF") => `(tactic| repeat (first | walk_at "al1" | with_reducible refine as_seq ?_ | with_reducible refine ae_tup ?_ | with_reducible refine ae_lst ?_ | with_reducible walk_at "alc" | refine ⟨_, rfl, ?_⟩ | walk_at "alds" | refine ⟨_, _, _, _, _, rfl, rfl, rfl, rfl, rfl, ?_⟩))
local macro_rules | `(tactic| walk_at "alo") => `(tactic| repeat (first | walk_at "al1" | with_reducible refine ae_tup ?_ | with_reducible walk_at "alc" | refine ⟨_, rfl, ?_⟩ | walk_at "alds" | refine ⟨_, _, _, _, _, rfl, rfl, rfl, rfl, rfl, ?_⟩))
local macro_rules | `(tactic| walk_at "almono") => `(tactic| first | exact mono_whole | exact mono_from | exact mono_size | exact mono_hears)
section
variable {P : Program} {w : World} {K : PySem.W.Frag} {mg : Str → Option Value} {base : Heap}
theorem ok_hears (D : DefAt K mg "are_hears" (top 13) ["thing", "many"]) (T : Bt mg) (G_is_from : FnAt P w K mg base CX0 2 "is_from" ["thing", "least", "most"] aFrom) {t : Tok} (g_MOST_HEARD : mg "MOST_HEARD" = some (.int 3 t)) :
    FnAt P w K mg base CX0 3 "are_hears" ["thing", "many"] aHears := by
  refine fnat D sc_are_hears (fun xs M Φ Ψ h => ?_) (fun f cdv A outer s H E hr => ⟨_, (pss_cons (ps_if (PW.pt (pw_or (pt_not (pt_val (pe_callB (k_isi K) (by rfl) T.isinstance (by decide +kernel) (pa_cons (pv 0) (pa_cons (pe_bltn (v := .ty "tuple") (by rfl) T.tuple (by decide +kernel) rfl) pa_nil))))) (pw_or1 (pt_cmpR op_gt (pe_callB (k_len K) (by rfl) T.len (by decide +kernel) (pa_cons (pv 0) pa_nil)) (pe_glob (v := .int 3) rfl g_MOST_HEARD ⟨_, rfl⟩) (nomark _))))) (pss_one (ps_ret pe_bl)) pss_nil) (pss_cons (ps_if (pt_not (pt_val (pe_callB (k_all K rfl) (by rfl) T.all (by decide +kernel) (pa_cons (pe_lc (own := [("room", 2)]) rfl sc_are_hears.nd (pi_seqK K (pv 0)) (blkOk_by (own := [("room", 2)]) (N := ["thing", "many", "room"]) (sc := defScope (top 13)) (by decide +kernel)) (fun _ _ _ _ _ => by exact (pg_name (i := 2) sc_are_hears.nd rfl (Or.inl rfl))) (fun _ _ _ _ _ => by exact pts_nil) (fun _ _ _ _ _ => by exact (pe_fn G_is_from (hr.mono (by decide)) rfl pass0 (pa_cons (pv 2) (pa_cons pe_int (pa_cons (pe_op op_sub (pv 1) pe_int) pa_nil)))))) pa_nil)))) (pss_one (ps_ret pe_bl)) pss_nil) (pss_one (ps_ret (pe_cmpR (k_eq K hr.units) (pe_lenSetT rfl T.len rfl T.set (pv 0)) (pe_callB (k_len K) (by rfl) T.len (by decide +kernel) (pa_cons (pv 0) pa_nil)) (nomark _)))))), fun B xs M Φ Ψ hB h => ?_⟩)
  · obtain ⟨x, n, rfl, _⟩ := h
    rfl
  · obtain ⟨x, many, rfl, rfl, hx, p⟩ := h
    walk_at "al"
    refine uc_isiB (flat_ty (flats_flat hx)) (tup_ty (flats_flat hx)) ⟨_, rfl, fun hb => ?_, fun hb => ?_⟩
    · -- no tuple
      refine ⟨fun _ => ?_, (fun z => nomatch z)⟩
      walk_at "al"
      have e : hearsB many x = false := by cases x <;> first | rfl | exact absurd hb (by simp [tupB])
      rw [e] at p
      exact rt_d p
    · cases x with
      | tup l =>
        walk_at "al"
        refine ⟨fun h3 => ?_, fun h3 => ?_⟩
        · walk_at "al"
          have h3 : 3 < (l.length : Int) := of_decide_eq_true h3
          have e : hearsB many (.tup l) = false := by show (decide (l.length ≤ 3) && _) = false; rw [decide_eq_false (by omega)]; rfl
          rw [e] at p
          exact rt_d p
        · have h3 : ¬ (3 < (l.length : Int)) := of_decide_eq_false h3
          walk_at "al"
          refine ae_map (l := l) (fun d => .bl (fromB 0 (many - 1) d)) rfl (gk_name rfl) (by rw [sizeLine_eq]; omega) (ai_seqT (ae_var rfl ⟨l, rfl, rfl, rfl, ?_⟩)) fun d hd acc => ?_
          · walk_at "al"
            refine uc_allP _ (.lst _) ⟨_, rfl, iteB (fun ha => ?_) fun ha => ?_⟩
            · walk_at "al"
              have e : hearsB many (.tup l) = false := by
                show (_ && (l.all _ && _)) = false
                rw [show l.all (fromB 0 (many - 1)) = false from by simpa using ha, Bool.false_and, Bool.and_false]
              rw [e] at p
              exact rt_d p
            · have ha : l.all (fromB 0 (many - 1)) = true := by simpa using ha
              have el := ints_of ha
              walk_at "al"
              refine ae_lenSetT (ae_var rfl ⟨l.map toI, by rw [← el], by rw [List.length_map]; omega, fun out nd hm => ?_⟩)
              walk_at "al"
              have e : hearsB many (.tup l) = decide (((out.length : Nat) : Int) = (l.length : Int)) := by
                show (decide (l.length ≤ 3) && (l.all _ && _)) = _
                rw [decide_eq_true (show l.length ≤ 3 by omega), ha, Bool.true_and, Bool.true_and]
                have := nodup_len nd hm
                rw [List.length_map] at this
                exact this.symm
              rw [e] at p
              exact rt_d p
          · walk_at "al"
            refine sent0 (ys := [d, .int 0, .int (many - 1)]) mono_from ?_
            exact ⟨d, 0, many - 1, rfl, rfl, List.all_eq_true.mp hx d hd, rfl, _, rfl, rfl, rfl⟩
      | _ => exact absurd hb (by simp [tupB])
end
end Wd
namespace Wd
open PySem PyProof.Rows L2 Al
variable [Al.TabList]
theorem sc_is_rule : FnScope ["rooms", "at", "own", "rows", "stand"] ["rooms", "at"] (defScope (top 15)) := ⟨rfl, rfl, rfl, by decide +kernel, rfl, by decide +kernel, by decide +kernel⟩
theorem sc_fault_of : FnScope ["rooms", "at", "own"] ["rooms", "at"] (defScope (top 16)) := ⟨rfl, rfl, rfl, by decide +kernel, rfl, by decide +kernel, by decide +kernel⟩
/-- a room, as it was handed in -/
structure Rd where
  h : D
  s : D
  f : D
  r : D
abbrev nms : List Str := ["hears", "size", "first", "rule"]
def Rd.d (C : Addr) (x : Rd) : D := .ins C nms [x.h, x.s, x.f, x.r]
/-- a rule that may be handed in: flat data, or a lambda -/
def RuleD (d : D) : Prop := flats d = true ∨ ∃ f c F, d = lamD f c F
theorem RuleD.ty {K : PySem.W.Frag} {d : D} (h : RuleD d) : TyL K d := by
  rcases h with h | ⟨f, c, F, rfl⟩
  · exact flat_ty (flats_flat h)
  · exact tyl_lam
theorem RuleD.kit {K : PySem.W.Frag} {d : D} (h : RuleD d) : PySem.W.kitOne K (tyD d) (.type "tuple") = some (tupB d) := by
  rcases h with h | ⟨f, c, F, rfl⟩
  · exact tup_ty (flats_flat h)
  · exact kit_ty (show kitB "function" "tuple" = some false by decide +kernel)
theorem RuleD.tup {l : List D} (h : RuleD (.tup l)) : flats (.tup l) = true := by
  rcases h with h | ⟨f, c, F, e⟩
  · exact h
  · cases e
structure Rd.Fine (x : Rd) : Prop where
  h : flats x.h = true
  s : flatD x.s = true
  f : flatD x.f = true
  r : RuleD x.r
/-- what is asked of the class Room -/
structure RoomC (K : PySem.W.Frag) (C : Addr) : Prop where
  cl : Cls K C
  hears : NoAttr K C "hears"
  size : NoAttr K C "size"
  first : NoAttr K C "first"
  rule : NoAttr K C "rule"
def rowsD (rs : List Rd) : List D → Int → Option Int
  | [], a => some a
  | e :: es, a => match rs[(toI e).toNat]? with
    | some x => if fromB 1 60 x.s = true then rowsD rs es (a * toI x.s) else none
    | none => none
def optI : Option Int → D | some i => .int i | none => .non
def aRows (C : Addr) : ASp := fun xs M Φ _ => ∃ (rs : List Rd) (l : List D), xs = [.d (.tup (rs.map (Rd.d C))), .d (.tup l)] ∧ M = [] ∧ (∀ x ∈ rs, x.Fine) ∧ l.length ≤ 3 ∧ l.all (fromB 0 ((rs.length : Int) - 1)) = true ∧ Φ (.d (optI (rowsD rs l 1))) []
theorem mono_rows {C : Addr} : Mono (aRows C) := fun xs M Φ Φ' Ψ Ψ' h1 _ ⟨rs, l, e1, e2, e3, e4, e5, p⟩ => ⟨rs, l, e1, e2, e3, e4, e5, h1 _ _ p⟩
theorem room_at {C : Addr} {rs : List Rd} {k : Nat} {x : Rd} (h : rs[k]? = some x) : atI (rs.map (Rd.d C)) (k : Int) = some (x.d C) := atI_natD (by rw [List.getElem?_map, h]; rfl)
theorem size_in {d : D} (h : fromB 1 60 d = true) : ∃ i, d = .int i ∧ 1 ≤ i ∧ i ≤ 60 := by
  cases d with
  | int i =>
    have h : (decide (1 ≤ i) && decide (i ≤ 60)) = true := h
    rw [Bool.and_eq_true] at h
    exact ⟨i, rfl, of_decide_eq_true h.1, of_decide_eq_true h.2⟩
  | _ => cases h
theorem ear_in {n : Int} {d : D} (h : fromB 0 n d = true) : ∃ i : Nat, d = .int i ∧ (i : Int) ≤ n := by
  cases d with
  | int i =>
    have h : (decide (0 ≤ i) && decide (i ≤ n)) = true := h
    rw [Bool.and_eq_true] at h
    have h0 := of_decide_eq_true h.1
    have h1 := of_decide_eq_true h.2
    exact ⟨i.toNat, by rw [Int.toNat_of_nonneg h0], by omega⟩
  | _ => cases h
local macro_rules | `(tactic| walk_at "alside") => `(tactic| first
  | decide
  | (dsimp only; decide)
  | exact Or.inr (by decide)
  | exact Or.inl (by decide)
  | (dsimp only; omega)
  | (unfold CDiv; omega)
  | (unfold CPow; omega)
  | (unfold CMul; omega)
  | assumption)
local macro_rules | `(tactic| walk_at "al1") => `(tactic| first
  | with_reducible refine as_asg ?_
  | with_reducible refine as_drop ?_
  | with_reducible refine as_ret ?_
  | with_reducible refine as_if ?_
  | with_reducible refine as_next ?_
  | with_reducible refine at_test ?_
  | with_reducible refine at_b ?_
  | with_reducible refine at_and ?_
  | with_reducible refine at_or ?_
  | with_reducible refine at_not ?_
  | with_reducible refine ae_op ?_
  | with_reducible refine ae_un ?_
  | with_reducible refine ae_cb ?_
  | with_reducible refine ae_if ?_
  | with_reducible refine ae_andV ?_
  | with_reducible refine ae_orV ?_
  | with_reducible refine ae_notV ?_
  | with_reducible refine ae_chain ?_
  | with_reducible refine ae_int ?_
  | with_reducible refine ae_bl ?_
  | with_reducible refine ae_non ?_
  | with_reducible refine ae_str ?_
  | with_reducible refine ae_ty ?_
  | with_reducible refine ae_adr ?_
  | with_reducible refine aa_nil ?_
  | with_reducible refine aa_cons ?_
  | with_reducible refine ag_name ?_
  | with_reducible refine ag_sub ?_
  | with_reducible refine at_yes ?_
  | ((with_reducible show AE _ _ (tVar _) _ _ _); refine ae_var rfl ?_)
  | ((with_reducible show AR _ _ (uAdd _) _ _ _ _); refine ur_addI ?_)
  | ((with_reducible show AR _ _ (uMul _) _ _ _ _); refine ur_mulI (by walk_at "alside") ?_)
  | ((with_reducible show AR _ _ (uEq _) _ _ _ _); first | refine ur_eqI ?_ | refine ur_eqS ?_ | refine ur_eqB ?_)
  | ((with_reducible show AR _ _ (uNe _) _ _ _ _); first | refine ur_neI ?_ | refine ur_neS ?_ | refine ur_neB ?_)
  | ((with_reducible show AR _ _ (rIx _) _ _ _ _); first | refine ur_ixM rfl rfl ?_ | refine ur_ixL rfl ?_ | refine ur_ixT rfl ?_ | refine ur_ixS rfl ?_)
  | ((with_reducible show AC _ _ (uLen _) _ _ _); first | refine uc_len (.tup _) ?_ | refine uc_len (.lst _) ?_ | refine uc_len (.scr _) ?_ | refine uc_len (.mm rfl) ?_)
  | ((with_reducible show AR _ _ (rI0 _) _ _ _ _); first | with_reducible refine ar_i0 ?_ | with_reducible refine ar_b0 ?_)
  | ((with_reducible show AU _ _ (rU _) _ _ _); with_reducible refine au_i ?_)
  | ((with_reducible show AR _ _ (rI _ _) _ _ _ _); refine ar_i (by walk_at "alside") ?_)
  | ((with_reducible show AR _ _ (rIxL _) _ _ _ _); first | refine ar_ixM rfl rfl ?_ | refine ar_ixL rfl ?_ | refine ar_ixS rfl ?_)
  | ((with_reducible show AR _ _ (rIxT _) _ _ _ _); refine ar_ixT rfl ?_)
  | ((with_reducible show AR _ _ rEq _ _ _ _); first | with_reducible refine ar_eqI ?_ | with_reducible refine ar_eqS ?_ | with_reducible refine ar_eqB ?_)
  | ((with_reducible show AR _ _ rNe _ _ _ _); first | with_reducible refine ar_neI ?_ | with_reducible refine ar_neS ?_ | with_reducible refine ar_neB ?_))
local macro_rules | `(tactic| walk_at "alds") => `(tactic| first
  | refine ⟨[], rfl, Nat.le_of_ble_eq_true rfl, ?_⟩
  | refine ⟨[_], rfl, Nat.le_of_ble_eq_true rfl, ?_⟩
  | refine ⟨[_, _], rfl, Nat.le_of_ble_eq_true rfl, ?_⟩
  | refine ⟨[_, _, _], rfl, Nat.le_of_ble_eq_true rfl, ?_⟩
  | refine ⟨[_, _, _, _], rfl, Nat.le_of_ble_eq_true rfl, ?_⟩
  | refine ⟨[_, _, _, _, _], rfl, Nat.le_of_ble_eq_true rfl, ?_⟩
  | refine ⟨[_, _, _, _, _, _], rfl, Nat.le_of_ble_eq_true rfl, ?_⟩
  | refine ⟨[_, _, _, _, _, _, _], rfl, Nat.le_of_ble_eq_true rfl, ?_⟩
  | refine ⟨[_, _, _, _, _, _, _, _], rfl, Nat.le_of_ble_eq_true rfl, ?_⟩
  | refine ⟨[_, _, _, _, _, _, _, _, _], rfl, Nat.le_of_ble_eq_true rfl, ?_⟩
  | refine ⟨[_, _, _, _, _, _, _, _, _, _], rfl, Nat.le_of_ble_eq_true rfl, ?_⟩
  | refine ⟨[_, _, _, _, _, _, _, _, _, _, _], rfl, Nat.le_of_ble_eq_true rfl, ?_⟩
  | refine ⟨[_, _, _, _, _, _, _, _, _, _, _, _], rfl, Nat.le_of_ble_eq_true rfl, ?_⟩)
local macro_rules | `(tactic| walk_at "alc") => `(tactic| refine ae_call0 (Ψ := fun _ _ => False) (by walk_at "almono") efits_none ?_)
local macro_rules | `(tactic| walk_at "al") => `(tactic| repeat (first | walk_at "al1" | with_reducible refine as_seq ?_ | with_reducible refine ae_tup ?_ | with_reducible walk_at "alc" | refine ⟨_, rfl, ?_⟩ | walk_at "alds" | refine ⟨_, _, _, _, _, rfl, rfl, rfl, rfl, rfl, ?_⟩))
local macro_rules | `(tactic| walk_at "alF") => `(tactic| repeat (first | walk_at "al1" | with_reducible refine as_seq ?_ | with_reducible refine ae_tup ?_ | with_reducible refine ae_lst ?_ | with_reducible walk_at "alc" | refine ⟨_, rfl, ?_⟩ | walk_at "alds" | refine ⟨_, _, _, _, _, rfl, rfl, rfl, rfl, rfl, ?_⟩))
local macro_rules | `(tactic| walk_at "alo") => `(tactic| repeat (first | walk_at "al1" | with_reducible refine ae_tup ?_ | with_reducible walk_at "alc" | refine ⟨_, rfl, ?_⟩ | walk_at "alds" | refine ⟨_, _, _, _, _, rfl, rfl, rfl, rfl, rfl, ?_⟩))
local macro_rules | `(tactic| walk_at "almono") => `(tactic| first | exact mono_whole | exact mono_from | exact mono_size | exact mono_hears | exact mono_rows)
section
variable {P : Program} {w : World} {K : PySem.W.Frag} {mg : Str → Option Value} {base : Heap} {C : Addr}
theorem ok_rows (D : DefAt K mg "rows_heard" (top 14) ["rooms", "hears"]) (T : Bt mg) (R : RoomC K C) (G_is_size : FnAt P w K mg base CX0 3 "is_size" ["thing"] aSize) :
    FnAt P w K mg base CX0 4 "rows_heard" ["rooms", "hears"] (aRows C) := by
  refine fnat D sc_rows_heard (fun xs M Φ Ψ h => ?_) (fun f cdv A outer s H E hr => ⟨_, (pss_cons (ps_set (i := 2) sc_rows_heard.nd rfl (Or.inl rfl) pe_int) (pss_cons (ps_for PassesOwn.never rfl (pi_seqK K (pv 1)) (pg_name (i := 3) sc_rows_heard.nd rfl (Or.inl rfl)) (pss_cons (ps_if (pt_not (pt_val (pe_fn G_is_size (hr.mono (by decide)) rfl pass0 (pa_cons (pe_fldK K (pe_ix (k_ix K) (pv 0) (pv 3) (fun _ _ => rfl)) (by rfl)) pa_nil)))) (pss_one (ps_ret pe_non)) pss_nil) (pss_one (ps_aug (i := 2) sc_rows_heard.nd rfl (Or.inl rfl) (pe_fldK K (pe_ix (k_ix K) (pv 0) (pv 3) (fun _ _ => rfl)) (by rfl)) iop_mul)))) (pss_one (ps_ret (pv 2))))), fun B xs M Φ Ψ hB h => ?_⟩)
  · obtain ⟨rs, l, rfl, _⟩ := h
    rfl
  · obtain ⟨rs, l, rfl, rfl, hf, h3, hl, p⟩ := h
    refine as_seq (as_asgN (ae_int ?_))
    refine as_seq (as_for (n := 0) (fun i σ M => ∃ (acc : Int) (r : Option AV), M = [] ∧ σ = [some (.d (.tup (rs.map (Rd.d C)))), some (.d (.tup l)), some (.d (.int acc)), r] ∧ rowsD rs l 1 = rowsD rs (l.drop i) acc ∧ 0 ≤ acc ∧ acc ≤ 60 ^ i ∧ i ≤ 3)
      (fun i σ M ⟨acc, r, e, _⟩ => by rw [e]; rfl) (ai_seqT (ae_var rfl ⟨l, rfl, ⟨1, none, rfl, rfl, rfl, by decide, by decide, by decide⟩, fun i d σ' M' hd hi => ?_, fun σ' M' hi => ?_⟩)))
    · obtain ⟨acc, r, rfl, rfl, e, h0, h60, hi3⟩ := hi
      have hlt := (List.getElem?_eq_some_iff.mp hd).1
      have hdr : l.drop i = d :: l.drop (i + 1) := by
        rw [List.drop_eq_getElem_cons hlt]
        rw [List.getElem?_eq_getElem hlt] at hd
        cases hd; rfl
      obtain ⟨k, rfl, hk⟩ := ear_in (List.all_eq_true.mp hl d (List.mem_of_getElem? hd))
      have hkl : k < rs.length := by omega
      have hx : rs[k]? = some rs[k] := List.getElem?_eq_getElem hkl
      have hfine := hf _ (List.getElem_mem hkl)
      have e2 : rowsD rs l 1 = if fromB 1 60 rs[k].s = true then rowsD rs (l.drop (i + 1)) (acc * toI rs[k].s) else none := by
        rw [e, hdr]
        show (match rs[((k : Nat) : Int).toNat]? with | some x => _ | none => _) = _
        rw [Int.toNat_natCast, hx]
      have hac : acc ≤ 216000 := by
        have : i = 0 ∨ i = 1 ∨ i = 2 := by omega
        rcases this with rfl | rfl | rfl
        · exact Int.le_trans h60 (by decide)
        · exact Int.le_trans h60 (by decide)
        · exact Int.le_trans h60 (by decide)
      walk_at "al"
      refine ae_fld (ae_op (ae_var rfl (ae_var rfl (ur_ixT (room_at hx) ⟨C, nms, _, _, rfl, R.cl, R.size, rfl, ?_⟩))))
      walk_at "al"
      refine sent0 (ys := [rs[k].s]) mono_size ?_
      refine ⟨rs[k].s, rfl, rfl, hfine.s, rfl, _, rfl, _, rfl, iteB (fun hs => ?_) fun hs => ?_⟩
      · have hs : fromB 1 60 rs[k].s = false := by simpa using hs
        walk_at "al"
        rw [e2, if_neg (by rw [hs]; exact Bool.false_ne_true)] at p
        exact rt_d p
      · have hs : fromB 1 60 rs[k].s = true := by simpa using hs
        obtain ⟨sz, es, s1, s60⟩ := size_in hs
        walk_at "al"
        refine as_augM rfl (ae_fld (ae_op (ae_var rfl (ae_var rfl (ur_ixT (room_at hx) ⟨C, nms, _, _, rfl, R.cl, R.size, rfl, sz, by rw [es], .inl ⟨by omega, by omega⟩, ?_⟩)))))
        rw [if_pos hs, es] at e2
        refine ⟨by simp, acc * sz, some (.d (.int k)), rfl, rfl, e2, Int.mul_nonneg h0 (by omega), ?_, by omega⟩
        rw [Int.pow_succ]
        exact Int.mul_le_mul h60 s60 (by omega) (Int.le_of_lt (Int.pow_pos (by decide)))
    · obtain ⟨acc, r, rfl, rfl, e, h0, h60, hi3⟩ := hi
      rw [List.drop_length] at e
      walk_at "al"
      rw [e] at p
      exact rt_d p
/-- as is_rule tells it -/
def earsOf : D → List D | .tup l => l | _ => []
def ruleB (rs : List Rd) (x : Rd) : Bool := match x.r with
  | .tup l => match rowsD rs (earsOf x.h) 1 with
    | some n => !decide (2000 < n) && (decide ((l.length : Int) = n) && l.all (fromB 0 (toI x.s - 1)))
    | none => true
  | _ => true
def aRule (C : Addr) : ASp := fun xs M Φ _ => ∃ (rs : List Rd) (k : Nat) (x : Rd), xs = [.d (.tup (rs.map (Rd.d C))), .d (.int k)] ∧ M = [] ∧ (∀ x ∈ rs, x.Fine) ∧ rs[k]? = some x ∧ hearsB rs.length x.h = true ∧ fromB 1 60 x.s = true ∧ Φ (.d (.bl (ruleB rs x))) []
theorem mono_rule {C : Addr} : Mono (aRule C) := fun xs M Φ Φ' Ψ Ψ' h1 _ ⟨rs, k, x, e1, e2, e3, e4, e5, e6, p⟩ => ⟨rs, k, x, e1, e2, e3, e4, e5, e6, h1 _ _ p⟩
theorem hears_in {n : Int} {d : D} (h : hearsB n d = true) : ∃ l, d = .tup l ∧ l.length ≤ 3 ∧ l.all (fromB 0 (n - 1)) = true ∧ (l.map toI).Nodup := by
  cases d with
  | tup l =>
    have h : (decide (l.length ≤ 3) && (l.all (fromB 0 (n - 1)) && decide (l.map toI).Nodup)) = true := h
    rw [Bool.and_eq_true, Bool.and_eq_true] at h
    exact ⟨l, rfl, of_decide_eq_true h.1, h.2.1, of_decide_eq_true h.2.2⟩
  | _ => cases h
theorem rows_le {rs : List Rd} : ∀ {l : List D} {a n : Int}, 0 ≤ a → a ≤ 60 ^ (3 - l.length) * 1 → l.length ≤ 3 → rowsD rs l a = some n → 0 ≤ n ∧ n ≤ 216000 := by
  intro l
  induction l with
  | nil => intro a n h0 h1 _ h; cases h; exact ⟨h0, Int.le_trans h1 (by decide)⟩
  | cons e es ih =>
    intro a n h0 h1 hl h
    have h : (match rs[(toI e).toNat]? with | some x => if fromB 1 60 x.s = true then rowsD rs es (a * toI x.s) else none | none => none) = some n := h
    cases hx : rs[(toI e).toNat]? with
    | none => rw [hx] at h; cases h
    | some x =>
      rw [hx] at h
      dsimp only at h
      by_cases hs : fromB 1 60 x.s = true
      · rw [if_pos hs] at h
        obtain ⟨sz, es', s1, s60⟩ := size_in hs
        rw [es'] at h
        refine ih (Int.mul_nonneg h0 (show 0 ≤ sz by omega)) ?_ (by simp at hl; omega) h
        simp at hl
        have e3 : 3 - es.length = (3 - (es.length + 1)) + 1 := by omega
        rw [e3, Int.pow_succ, Int.mul_one]
        rw [List.length_cons, Int.mul_one] at h1
        exact Int.mul_le_mul h1 s60 (show 0 ≤ sz by omega) (Int.le_of_lt (Int.pow_pos (by decide)))
      · rw [if_neg hs] at h; cases h
theorem ok_rule (D : DefAt K mg "is_rule" (top 15) ["rooms", "at"]) (T : Bt mg) (R : RoomC K C) (G_rows_heard : FnAt P w K mg base CX0 4 "rows_heard" ["rooms", "hears"] (aRows C)) (G_is_from : FnAt P w K mg base CX0 2 "is_from" ["thing", "least", "most"] aFrom) {t : Tok} (g_MOST_TABLE : mg "MOST_TABLE" = some (.int 2000 t)) :
    FnAt P w K mg base CX0 5 "is_rule" ["rooms", "at"] (aRule C) := by
  refine fnat D sc_is_rule (fun xs M Φ Ψ h => ?_) (fun f cdv A outer s H E hr => ⟨_, (pss_cons (ps_set (i := 2) sc_is_rule.nd rfl (Or.inr rfl) (pe_ix (k_ix K) (pv 0) (pv 1) (fun _ _ => rfl))) (pss_cons (ps_if (pt_not (pt_val (pe_callB (k_isi K) (by rfl) T.isinstance (by decide +kernel) (pa_cons (pe_fldK K (pv 2) (by rfl)) (pa_cons (pe_bltn (v := .ty "tuple") (by rfl) T.tuple (by decide +kernel) rfl) pa_nil))))) (pss_one (ps_ret pe_bl)) pss_nil) (pss_cons (ps_set (i := 3) sc_is_rule.nd rfl (Or.inl rfl) (pe_fn G_rows_heard (hr.mono (by decide)) rfl pass0 (pa_cons (pv 0) (pa_cons (pe_fldK K (pv 2) (by rfl)) pa_nil)))) (pss_cons (ps_if (pt_cmpR op_isN (pv 3) pe_non (nomark _)) (pss_one (ps_ret pe_bl)) pss_nil) (pss_cons (ps_if (PW.pt (pw_or (pt_cmpR op_gt (pv 3) (pe_glob (v := .int 2000) rfl g_MOST_TABLE ⟨_, rfl⟩) (nomark _)) (pw_or1 (pt_cmpR (k_ne K hr.units) (pe_callB (k_len K) (by rfl) T.len (by decide +kernel) (pa_cons (pe_fldK K (pv 2) (by rfl)) pa_nil)) (pv 3) (nomark _))))) (pss_one (ps_ret pe_bl)) pss_nil) (pss_one (ps_ret (pe_callB (k_all K rfl) (by rfl) T.all (by decide +kernel) (pa_cons (pe_lc (own := [("stand", 4)]) rfl sc_is_rule.nd (pi_seqK K (by exact (pe_fldK K (pv 2) (by rfl)))) (blkOk_by (own := [("stand", 4)]) (N := ["rooms", "at", "own", "rows", "stand"]) (sc := defScope (top 15)) (by decide +kernel)) (fun _ _ _ _ _ => by exact (pg_name (i := 4) sc_is_rule.nd rfl (Or.inl rfl))) (fun _ _ _ _ _ => by exact pts_nil) (fun _ _ _ _ _ => by exact (pe_fn G_is_from (hr.mono (by decide)) rfl pass0 (pa_cons (pv 4) (pa_cons pe_int (pa_cons (pe_op op_sub (pe_fldK K (pv 2) (by rfl)) pe_int) pa_nil)))))) pa_nil))))))))), fun B xs M Φ Ψ hB h => ?_⟩)
  · obtain ⟨rs, k, x, rfl, _⟩ := h
    rfl
  · obtain ⟨rs, k, x, rfl, rfl, hf, hx, hh, hs, p⟩ := h
    have hfine := hf x (List.mem_of_getElem? hx)
    obtain ⟨el, eh, h3, hall, _⟩ := hears_in hh
    obtain ⟨sz, es, s1, s60⟩ := size_in hs
    refine as_seq (as_asgN (ae_op (ae_var rfl (ae_var rfl (ur_ixT (room_at hx) ?_)))))
    walk_at "al"
    refine ae_fld (ae_var rfl ⟨C, nms, _, _, rfl, R.cl, R.rule, rfl, ?_⟩)
    walk_at "al"
    refine uc_isiB hfine.r.ty hfine.r.kit ⟨_, rfl, iteB (fun hb => ?_) fun hb => ?_⟩
    · walk_at "al"
      have e : ruleB rs x = true := by
        unfold ruleB
        cases er : x.r with
        | tup l => rw [er] at hb; exact absurd hb (by simp [tupB])
        | _ => rfl
      rw [e] at p
      exact rt_d p
    · have hb : tupB x.r = true := by simpa using hb
      obtain ⟨rl, er⟩ : ∃ rl, x.r = .tup rl := by
        cases er : x.r with
        | tup l => exact ⟨l, rfl⟩
        | _ => rw [er] at hb; cases hb
      walk_at "al"
      refine ae_fld (ae_var rfl ⟨C, nms, _, _, rfl, R.cl, R.hears, rfl, ?_⟩)
      walk_at "al"
      refine sent0 (ys := [.tup (rs.map (Rd.d C)), x.h]) mono_rows ?_
      refine ⟨rs, el, by rw [eh]; rfl, rfl, hf, h3, hall, rfl, _, rfl, ?_⟩
      cases hrow : rowsD rs el 1 with
      | none =>
        dsimp only [optI]
        walk_at "al"
        refine ar_isN ⟨_, rfl, iteB (fun _ => ?_) (fun z => nomatch z)⟩
        walk_at "al"
        have e : ruleB rs x = true := by unfold ruleB; rw [er, eh]; dsimp only [earsOf]; rw [hrow]
        rw [e] at p
        exact rt_d p
      | some n =>
        have hn := rows_le (l := el) (by decide) (by
          rw [Int.mul_one]
          exact Int.le_of_lt_add_one (by
            have : (0 : Int) < 60 ^ (3 - el.length) := Int.pow_pos (by decide)
            omega)) h3 hrow
        have e : ruleB rs x = (!decide (2000 < n) && (decide ((rl.length : Int) = n) && rl.all (fromB 0 (toI x.s - 1)))) := by unfold ruleB; rw [er, eh]; dsimp only [earsOf]; rw [hrow]
        rw [e] at p
        dsimp only [optI]
        walk_at "al"
        refine ar_isN ⟨_, rfl, (fun z => nomatch z), fun _ => ?_⟩
        walk_at "al"
        refine iteB (fun h2 => ?_) fun h2 => ?_
        · have h2 : decide (2000 < n) = true := h2
          refine ⟨fun _ => ?_, (fun z => nomatch z)⟩
          walk_at "al"
          rw [h2] at p
          exact rt_d p
        · have h2 : decide (2000 < n) = false := h2
          walk_at "al"
          refine ae_fld (ae_var rfl ⟨C, nms, _, _, rfl, R.cl, R.rule, rfl, ?_⟩)
          rw [er]
          walk_at "al"
          refine iteB (fun h4 => ?_) fun h4 => ?_
          · have h4 : decide ((rl.length : Int) = n) = false := by simpa using h4
            walk_at "al"
            rw [h2, h4] at p
            exact rt_d p
          · have h4 : decide ((rl.length : Int) = n) = true := by simpa using h4
            have h5 := of_decide_eq_false h2
            have h6 := of_decide_eq_true h4
            walk_at "al"
            refine ae_map (l := rl) (fun d => .bl (fromB 0 (toI x.s - 1) d)) rfl (gk_name rfl) (by rw [sizeLine_eq]; omega) (ai_seqT (ae_fld (ae_var rfl ⟨C, nms, _, _, rfl, R.cl, R.rule, rfl, rl, by rw [er], rfl, rfl, ?_⟩))) fun d hd acc => ?_
            · walk_at "al"
              refine uc_allP _ (.lst _) ?_
              rw [h2, h4] at p
              exact rt_d p
            · walk_at "al"
              refine ae_fld (ae_var rfl ⟨C, nms, _, _, rfl, R.cl, R.size, rfl, ?_⟩)
              rw [es]
              walk_at "al"
              refine sent0 (ys := [d, .int 0, .int (sz - 1)]) mono_from ?_
              have hr := hfine.r
              rw [er] at hr
              have hr := hr.tup
              exact ⟨d, 0, sz - 1, rfl, rfl, List.all_eq_true.mp hr d hd, rfl, _, rfl, rfl, rfl⟩
end
end Wd
namespace Wd
open PySem PyProof.Rows L2 Al Gx
variable [Al.TabList]
theorem sc_look_rooms : FnScope ["rooms", "one", "at", "what"] ["rooms"] (defScope (top 17)) := ⟨rfl, rfl, rfl, by decide +kernel, rfl, by decide +kernel, by decide +kernel⟩
def faultD (rs : List Rd) (x : Rd) : Option Str :=
  if hearsB rs.length x.h = true then if fromB 1 60 x.s = true then if fromB 0 (toI x.s - 1) x.f = true then if ruleB rs x = true then none else some "rule" else some "first" else some "size" else some "hears"
def optS : Option Str → D | some s => .str s | none => .non
def aFault (C : Addr) : ASp := fun xs M Φ _ => ∃ (rs : List Rd) (k : Nat) (x : Rd), xs = [.d (.tup (rs.map (Rd.d C))), .d (.int k)] ∧ M = [] ∧ (∀ x ∈ rs, x.Fine) ∧ rs[k]? = some x ∧ Φ (.d (optS (faultD rs x))) []
theorem mono_fault {C : Addr} : Mono (aFault C) := fun xs M Φ Φ' Ψ Ψ' h1 _ ⟨rs, k, x, e1, e2, e3, e4, p⟩ => ⟨rs, k, x, e1, e2, e3, e4, h1 _ _ p⟩
def firstF (rs : List Rd) : Nat → List Rd → Option (Int × Str)
  | _, [] => none
  | k, x :: xs => match faultD rs x with | some s => some ((k : Int), s) | none => firstF rs (k + 1) xs
/-- what is no web's rooms -/
def webD (rs : List Rd) : Option (Int × Str) := if 1 ≤ rs.length ∧ rs.length ≤ 12 then firstF rs 0 rs else some (-1, "rooms")
/-- the end of a def that refuses with the class at CE, or tells x -/
def endW (CE : Addr) (o : Option (Int × Str)) (x : AV) (M : List MO) (Φ : AV → List MO → Prop) (Ψ : Exc → List MO → Prop) : Prop := match o with
  | none => Φ x M
  | some (k, s) => Ψ (CE, [("at", .int k), ("what", .str s)]) M
theorem endW_mono {CE : Addr} {o : Option (Int × Str)} {x : AV} {M M' : List MO} {Φ Φ' : AV → List MO → Prop} {Ψ Ψ' : Exc → List MO → Prop} (h1 : Φ x M → Φ' x M) (h2 : ∀ e, Ψ e M → Ψ' e M) (h : endW CE o x M Φ Ψ) : endW CE o x M Φ' Ψ' := by
  cases o with
  | none => exact h1 h
  | some q => exact h2 _ h
/-- what is no tuple of one to twelve rooms -/
def NotRooms (K : PySem.W.Frag) (C : Addr) (d : D) : Prop := TyL K d ∧ (PySem.W.kitOne K (tyD d) (.type "tuple") = some false ∨ ∃ l, d = .tup l ∧
  (l.length = 0 ∨ 12 < l.length ∨ ∃ g : D → Bool, (∀ y ∈ l, TyL K y ∧ PySem.W.kitOne K (tyD y) (.ref C) = some (g y)) ∧ l.all g = false))
def aLook (K : PySem.W.Frag) (C CE : Addr) : ASp := fun xs M Φ Ψ => (∃ (rs : List Rd), xs = [.d (.tup (rs.map (Rd.d C)))] ∧ M = [] ∧ (∀ x ∈ rs, x.Fine) ∧ rs.length ≤ 1000 ∧ endW CE (webD rs) (.d .non) [] Φ Ψ) ∨
  ∃ d : D, xs = [.d d] ∧ M = [] ∧ NotRooms K C d ∧ Ψ (CE, [("at", .int (-1)), ("what", .str "rooms")]) []
theorem mono_look {K : PySem.W.Frag} {C CE : Addr} : Mono (aLook K C CE) := fun xs M Φ Φ' Ψ Ψ' h1 h2 h => h.imp (fun ⟨rs, e1, e2, e3, e4, p⟩ => ⟨rs, e1, e2, e3, e4, endW_mono (M' := []) (h1 _ _) (fun e => h2 e _) p⟩) fun ⟨d, e1, e2, e3, p⟩ => ⟨d, e1, e2, e3, h2 _ _ p⟩
theorem xt_d {Ψ : Exc → List MO → Prop} {e : Exc} (h : Ψ e []) : XT 0 Ψ e [] := ⟨0, Nat.le_refl _, by simp, h⟩
local macro_rules | `(tactic| walk_at "alside") => `(tactic| first
  | decide
  | (dsimp only; decide)
  | exact Or.inr (by decide)
  | exact Or.inl (by decide)
  | (dsimp only; omega)
  | (unfold CDiv; omega)
  | (unfold CPow; omega)
  | (unfold CMul; omega)
  | assumption)
local macro_rules | `(tactic| walk_at "al1") => `(tactic| first
  | with_reducible refine as_asg ?_
  | with_reducible refine as_drop ?_
  | with_reducible refine as_ret ?_
  | with_reducible refine as_if ?_
  | with_reducible refine as_next ?_
  | with_reducible refine at_test ?_
  | with_reducible refine at_b ?_
  | with_reducible refine at_and ?_
  | with_reducible refine at_or ?_
  | with_reducible refine at_not ?_
  | with_reducible refine ae_op ?_
  | with_reducible refine ae_un ?_
  | with_reducible refine ae_cb ?_
  | with_reducible refine ae_if ?_
  | with_reducible refine ae_andV ?_
  | with_reducible refine ae_orV ?_
  | with_reducible refine ae_notV ?_
  | with_reducible refine ae_chain ?_
  | with_reducible refine ae_int ?_
  | with_reducible refine ae_bl ?_
  | with_reducible refine ae_non ?_
  | with_reducible refine ae_str ?_
  | with_reducible refine ae_ty ?_
  | with_reducible refine ae_adr ?_
  | with_reducible refine aa_nil ?_
  | with_reducible refine aa_cons ?_
  | with_reducible refine ag_name ?_
  | with_reducible refine ag_sub ?_
  | with_reducible refine at_yes ?_
  | ((with_reducible show AE _ _ (tVar _) _ _ _); refine ae_var rfl ?_)
  | ((with_reducible show AR _ _ (uAdd _) _ _ _ _); refine ur_addI ?_)
  | ((with_reducible show AR _ _ (uMul _) _ _ _ _); refine ur_mulI (by walk_at "alside") ?_)
  | ((with_reducible show AR _ _ (uEq _) _ _ _ _); first | refine ur_eqI ?_ | refine ur_eqS ?_ | refine ur_eqB ?_)
  | ((with_reducible show AR _ _ (uNe _) _ _ _ _); first | refine ur_neI ?_ | refine ur_neS ?_ | refine ur_neB ?_)
  | ((with_reducible show AR _ _ (rIx _) _ _ _ _); first | refine ur_ixM rfl rfl ?_ | refine ur_ixL rfl ?_ | refine ur_ixT rfl ?_ | refine ur_ixS rfl ?_)
  | ((with_reducible show AC _ _ (uLen _) _ _ _); first | refine uc_len (.tup _) ?_ | refine uc_len (.lst _) ?_ | refine uc_len (.scr _) ?_ | refine uc_len (.mm rfl) ?_)
  | ((with_reducible show AR _ _ (rI0 _) _ _ _ _); first | with_reducible refine ar_i0 ?_ | with_reducible refine ar_b0 ?_)
  | ((with_reducible show AU _ _ (rU _) _ _ _); with_reducible refine au_i ?_)
  | ((with_reducible show AR _ _ (rI _ _) _ _ _ _); refine ar_i (by walk_at "alside") ?_)
  | ((with_reducible show AR _ _ (rIxL _) _ _ _ _); first | refine ar_ixM rfl rfl ?_ | refine ar_ixL rfl ?_ | refine ar_ixS rfl ?_)
  | ((with_reducible show AR _ _ (rIxT _) _ _ _ _); refine ar_ixT rfl ?_)
  | ((with_reducible show AR _ _ rEq _ _ _ _); first | with_reducible refine ar_eqI ?_ | with_reducible refine ar_eqS ?_ | with_reducible refine ar_eqB ?_)
  | ((with_reducible show AR _ _ rNe _ _ _ _); first | with_reducible refine ar_neI ?_ | with_reducible refine ar_neS ?_ | with_reducible refine ar_neB ?_))
local macro_rules | `(tactic| walk_at "alds") => `(tactic| first
  | refine ⟨[], rfl, Nat.le_of_ble_eq_true rfl, ?_⟩
  | refine ⟨[_], rfl, Nat.le_of_ble_eq_true rfl, ?_⟩
  | refine ⟨[_, _], rfl, Nat.le_of_ble_eq_true rfl, ?_⟩
  | refine ⟨[_, _, _], rfl, Nat.le_of_ble_eq_true rfl, ?_⟩
  | refine ⟨[_, _, _, _], rfl, Nat.le_of_ble_eq_true rfl, ?_⟩
  | refine ⟨[_, _, _, _, _], rfl, Nat.le_of_ble_eq_true rfl, ?_⟩
  | refine ⟨[_, _, _, _, _, _], rfl, Nat.le_of_ble_eq_true rfl, ?_⟩
  | refine ⟨[_, _, _, _, _, _, _], rfl, Nat.le_of_ble_eq_true rfl, ?_⟩
  | refine ⟨[_, _, _, _, _, _, _, _], rfl, Nat.le_of_ble_eq_true rfl, ?_⟩
  | refine ⟨[_, _, _, _, _, _, _, _, _], rfl, Nat.le_of_ble_eq_true rfl, ?_⟩
  | refine ⟨[_, _, _, _, _, _, _, _, _, _], rfl, Nat.le_of_ble_eq_true rfl, ?_⟩
  | refine ⟨[_, _, _, _, _, _, _, _, _, _, _], rfl, Nat.le_of_ble_eq_true rfl, ?_⟩
  | refine ⟨[_, _, _, _, _, _, _, _, _, _, _, _], rfl, Nat.le_of_ble_eq_true rfl, ?_⟩)
local macro_rules | `(tactic| walk_at "alc") => `(tactic| refine ae_call0 (Ψ := fun _ _ => False) (by walk_at "almono") efits_none ?_)
local macro_rules | `(tactic| walk_at "al") => `(tactic| repeat (first | walk_at "al1" | with_reducible refine as_seq ?_ | with_reducible refine ae_tup ?_ | with_reducible walk_at "alc" | refine ⟨_, rfl, ?_⟩ | walk_at "alds" | refine ⟨_, _, _, _, _, rfl, rfl, rfl, rfl, rfl, ?_⟩))
local macro_rules | `(tactic| walk_at "alF") => `(tactic| repeat (first | walk_at "al1" | with_reducible refine as_seq ?_ | with_reducible refine ae_tup ?_ | with_reducible refine ae_lst ?_ | with_reducible walk_at "alc" | refine ⟨_, rfl, ?_⟩ | walk_at "alds" | refine ⟨_, _, _, _, _, rfl, rfl, rfl, rfl, rfl, ?_⟩))
local macro_rules | `(tactic| walk_at "alo") => `(tactic| repeat (first | walk_at "al1" | with_reducible refine ae_tup ?_ | with_reducible walk_at "alc" | refine ⟨_, rfl, ?_⟩ | walk_at "alds" | refine ⟨_, _, _, _, _, rfl, rfl, rfl, rfl, rfl, ?_⟩))
local macro_rules | `(tactic| walk_at "almono") => `(tactic| first | exact mono_whole | exact mono_from | exact mono_size | exact mono_hears | exact mono_rows | exact mono_rule | exact mono_fault)
section
variable {P : Program} {w : World} {K : PySem.W.Frag} {mg : Str → Option Value} {base : Heap} {C CE : Addr}
theorem ok_fault (D : DefAt K mg "fault_of" (top 16) ["rooms", "at"]) (T : Bt mg) (R : RoomC K C) (G_are_hears : FnAt P w K mg base CX0 3 "are_hears" ["thing", "many"] aHears) (G_is_size : FnAt P w K mg base CX0 3 "is_size" ["thing"] aSize)
    (G_is_from : FnAt P w K mg base CX0 2 "is_from" ["thing", "least", "most"] aFrom) (G_is_rule : FnAt P w K mg base CX0 5 "is_rule" ["rooms", "at"] (aRule C)) : FnAt P w K mg base CX0 6 "fault_of" ["rooms", "at"] (aFault C) := by
  refine fnat D sc_fault_of (fun xs M Φ Ψ h => ?_) (fun f cdv A outer s H E hr => ⟨_, (pss_cons (ps_set (i := 2) sc_fault_of.nd rfl (Or.inl rfl) (pe_ix (k_ix K) (pv 0) (pv 1) (fun _ _ => rfl))) (pss_cons (ps_if (pt_not (pt_val (pe_fn G_are_hears (hr.mono (by decide)) rfl pass0 (pa_cons (pe_fldK K (pv 2) (by rfl)) (pa_cons (pe_callB (k_len K) (by rfl) T.len (by decide +kernel) (pa_cons (pv 0) pa_nil)) pa_nil))))) (pss_one (ps_ret pe_str)) pss_nil) (pss_cons (ps_if (pt_not (pt_val (pe_fn G_is_size (hr.mono (by decide)) rfl pass0 (pa_cons (pe_fldK K (pv 2) (by rfl)) pa_nil)))) (pss_one (ps_ret pe_str)) pss_nil) (pss_cons (ps_if (pt_not (pt_val (pe_fn G_is_from (hr.mono (by decide)) rfl pass0 (pa_cons (pe_fldK K (pv 2) (by rfl)) (pa_cons pe_int (pa_cons (pe_op op_sub (pe_fldK K (pv 2) (by rfl)) pe_int) pa_nil)))))) (pss_one (ps_ret pe_str)) pss_nil) (pss_one (ps_ret (pe_ifExp (pt_val (pe_fn G_is_rule (hr.mono (by decide)) rfl pass0 (pa_cons (pv 0) (pa_cons (pv 1) pa_nil)))) pe_non pe_str))))))), fun B xs M Φ Ψ hB h => ?_⟩)
  · obtain ⟨rs, k, x, rfl, _⟩ := h
    rfl
  · obtain ⟨rs, k, x, rfl, rfl, hf, hx, p⟩ := h
    have hfine := hf x (List.mem_of_getElem? hx)
    refine as_seq (as_asgN (ae_op (ae_var rfl (ae_var rfl (ur_ixT (room_at hx) ?_)))))
    walk_at "al"
    refine ae_fld (ae_var rfl ⟨C, nms, _, _, rfl, R.cl, R.hears, rfl, ?_⟩)
    walk_at "al"
    rw [List.length_map]
    refine sent0 (ys := [x.h, .int rs.length]) mono_hears ?_
    refine ⟨x.h, rs.length, rfl, rfl, hfine.h, rfl, _, rfl, _, rfl, iteB (fun h1 => ?_) fun h1 => ?_⟩
    · have h1 : hearsB rs.length x.h = false := by simpa using h1
      walk_at "al"
      unfold faultD at p
      rw [if_neg (by rw [h1]; exact Bool.false_ne_true)] at p
      exact rt_d p
    have h1 : hearsB rs.length x.h = true := by simpa using h1
    unfold faultD at p
    rw [if_pos h1] at p
    walk_at "al"
    refine ae_fld (ae_var rfl ⟨C, nms, _, _, rfl, R.cl, R.size, rfl, ?_⟩)
    walk_at "al"
    refine sent0 (ys := [x.s]) mono_size ?_
    refine ⟨x.s, rfl, rfl, hfine.s, rfl, _, rfl, _, rfl, iteB (fun h2 => ?_) fun h2 => ?_⟩
    · have h2 : fromB 1 60 x.s = false := by simpa using h2
      walk_at "al"
      rw [if_neg (by rw [h2]; exact Bool.false_ne_true)] at p
      exact rt_d p
    have h2 : fromB 1 60 x.s = true := by simpa using h2
    rw [if_pos h2] at p
    obtain ⟨sz, es, s1, s60⟩ := size_in h2
    walk_at "al"
    refine ae_fld (ae_var rfl ⟨C, nms, _, _, rfl, R.cl, R.first, rfl, ?_⟩)
    walk_at "al"
    refine ae_fld (ae_var rfl ⟨C, nms, _, _, rfl, R.cl, R.size, rfl, ?_⟩)
    rw [es]
    walk_at "al"
    refine sent0 (ys := [x.f, .int 0, .int (sz - 1)]) mono_from ?_
    refine ⟨x.f, 0, sz - 1, rfl, rfl, hfine.f, rfl, _, rfl, _, rfl, iteB (fun h3 => ?_) fun h3 => ?_⟩
    · have h3 : fromB 0 (toI x.s - 1) x.f = false := by rw [es]; show fromB 0 (sz - 1) x.f = _; simpa using h3
      walk_at "al"
      rw [if_neg (by rw [h3]; exact Bool.false_ne_true)] at p
      exact rt_d p
    have h3 : fromB 0 (toI x.s - 1) x.f = true := by rw [es]; show fromB 0 (sz - 1) x.f = _; simpa using h3
    rw [if_pos h3] at p
    walk_at "al"
    refine sent0 (ys := [.tup (rs.map (Rd.d C)), .int k]) mono_rule ?_
    refine ⟨rs, k, x, rfl, rfl, hf, hx, h1, h2, rfl, _, rfl, _, rfl, fun h4 => ?_, fun h4 => ?_⟩
    · walk_at "al"
      rw [if_pos h4] at p
      exact rt_d p
    · walk_at "al"
      rw [if_neg (by rw [h4]; exact Bool.false_ne_true)] at p
      exact rt_d p
theorem firstF_drop {rs : List Rd} {i : Nat} {x : Rd} (h : rs[i]? = some x) : firstF rs i (rs.drop i) = match faultD rs x with | some s => some ((i : Int), s) | none => firstF rs (i + 1) (rs.drop (i + 1)) := by
  have hl := (List.getElem?_eq_some_iff.mp h).1
  rw [List.drop_eq_getElem_cons hl]
  rw [List.getElem?_eq_getElem hl] at h
  cases h
  rfl
theorem ok_look {C_Room C_NoWeb : Addr} (D : DefAt K mg "look_rooms" (top 17) ["rooms"]) (T : Bt mg) (I : InsC K C_Room) (c_Room : mg "Room" = some (.ref C_Room)) (X_NoWeb : XcAt P w K mg C_NoWeb "NoWeb" ["at", "what"]) (G_fault_of : FnAt P w K mg base CX0 6 "fault_of" ["rooms", "at"] (aFault C_Room))
    {t : Tok} (g_MOST_ROOMS : mg "MOST_ROOMS" = some (.int 12 t)) : FnAt P w K mg base (L2.CX P w) 7 "look_rooms" ["rooms"] (aLook K C_Room C_NoWeb) := by
  refine fnatX D sc_look_rooms (fun xs M Φ Ψ h => ?_) (fun f cdv A outer s H E hr => ⟨_, (pss_cons (ps_if (PW.pt (pw_or (pt_not (pt_val (pe_callB (k_isi K) (by rfl) T.isinstance (by decide +kernel) (pa_cons (pv 0) (pa_cons (pe_bltn (v := .ty "tuple") (by rfl) T.tuple (by decide +kernel) rfl) pa_nil))))) (pw_or1 (pt_not (pt_chain op_le op_le pe_int (pe_callB (k_len K) (by rfl) T.len (by decide +kernel) (pa_cons (pv 0) pa_nil)) (pe_glob (v := .int 12) rfl g_MOST_ROOMS ⟨_, rfl⟩)))))) (pss_one (ps_raiseX X_NoWeb rfl (takes_of rfl rfl rfl rfl) (hr.mono (by decide)) rfl (pa_cons (pe_un un_neg pe_int) (pa_cons pe_str pa_nil)))) pss_nil) (pss_cons (ps_if (pt_not (pt_val (pe_callB (k_all K rfl) (by rfl) T.all (by decide +kernel) (pa_cons (pe_lc (own := [("one", 1)]) rfl sc_look_rooms.nd (pi_seqK K (pv 0)) (blkOk_by (own := [("one", 1)]) (N := ["rooms", "one", "at", "what"]) (sc := defScope (top 17)) (by decide +kernel)) (fun _ _ _ _ _ => by exact (pg_name (i := 1) sc_look_rooms.nd rfl (Or.inl rfl))) (fun _ _ _ _ _ => by exact pts_nil) (fun _ _ _ _ _ => by exact (pe_callB (k_isi K) (by rfl) T.isinstance (by decide +kernel) (pa_cons (pv 1) (pa_cons (pe_glob (v := .ref C_Room) rfl c_Room rfl) pa_nil))))) pa_nil)))) (pss_one (ps_raiseX X_NoWeb rfl (takes_of rfl rfl rfl rfl) (hr.mono (by decide)) rfl (pa_cons (pe_un un_neg pe_int) (pa_cons pe_str pa_nil)))) pss_nil) (pss_one (ps_for (passes_of rfl) rfl (pi_range1 rfl T.range (pa_cons (pe_callB (k_len K) (by rfl) T.len (by decide +kernel) (pa_cons (pv 0) pa_nil)) pa_nil)) (pg_name (i := 2) sc_look_rooms.nd rfl (Or.inl rfl)) (pss_cons (ps_set (i := 3) sc_look_rooms.nd rfl (Or.inl rfl) (pe_fn G_fault_of (hr.mono (by decide)) rfl pass0 (pa_cons (pv 0) (pa_cons (pv 2) pa_nil)))) (pss_one (ps_if (pt_cmpR op_notN (pv 3) pe_non (nomark _)) (pss_one (ps_raiseX X_NoWeb rfl (takes_of rfl rfl rfl rfl) (hr.mono (by decide)) rfl (pa_cons (pv 2) (pa_cons (pv 3) pa_nil)))) pss_nil))))))), fun B xs M Φ Ψ hB h hE => ?_⟩)
  · obtain ⟨rs, rfl, _⟩ | ⟨d, rfl, _⟩ := h <;> rfl
  obtain ⟨rs, rfl, rfl, hf, hbig, p⟩ | ⟨d, rfl, rfl, ⟨ht, hn⟩, p⟩ := h
  · walk_at "al"
    refine uc_isiB True.intro (b := true) (kit_ty (by decide +kernel)) ⟨_, rfl, (fun z => nomatch z), fun _ => ?_⟩
    walk_at "al"
    rw [List.length_map]
    refine iteB (fun h1 => ?_) fun h1 => ?_
    · have h1 := of_decide_eq_true h1
      walk_at "al"
      refine iteB (fun h2 => ?_) fun h2 => ?_
      · have h2 : decide ((rs.length : Int) ≤ 12) = false := by simpa using h2
        have h2 := of_decide_eq_false h2
        refine as_raise hE ?_
        walk_at "al"
        refine ⟨[.int (-1), .str "rooms"], rfl, rfl, xt_d ?_⟩
        rw [show webD rs = some (-1, ("rooms" : Str)) from if_neg (by omega)] at p
        exact p
      · have h2 : decide ((rs.length : Int) ≤ 12) = true := by simpa using h2
        have h2 := of_decide_eq_true h2
        rw [show webD rs = firstF rs 0 rs from if_pos (by omega)] at p
        walk_at "al"
        refine ae_map (l := rs.map (Rd.d C_Room)) (fun _ => .bl true) rfl (gk_name rfl) (by rw [List.length_map, sizeLine_eq]; omega) (ai_seqT (ae_var rfl ⟨_, rfl, rfl, rfl, ?_⟩)) fun d hd acc => ?_
        · walk_at "al"
          refine uc_allP (fun _ => true) (.lst _) ?_
          rw [show (rs.map (Rd.d C_Room)).all (fun _ => true) = true from by simp]
          refine ⟨_, rfl, (fun z => nomatch z), fun _ => ?_⟩
          walk_at "al"
          refine as_for (n := 0) (fun i σ M => M = [] ∧ (∃ a b, σ = [some (.d (.tup (rs.map (Rd.d C_Room)))), none, a, b]) ∧ firstF rs 0 rs = firstF rs i (rs.drop i)) (fun i σ M e => by rw [e.1]; rfl)
            (ai_rng1 ?_)
          walk_at "al"
          rw [List.length_map]
          refine ⟨by omega, by omega, ⟨rfl, ⟨none, none, rfl⟩, by rw [List.drop_zero]⟩, fun i d σ' M' hd hi => ?_, fun σ' M' hi => ?_⟩
          · obtain ⟨rfl, ⟨a, b, rfl⟩, e⟩ := hi
            obtain ⟨hlt, rfl⟩ := rngD_get hd
            have hlt : i < rs.length := by omega
            have hx : rs[i]? = some rs[i] := List.getElem?_eq_getElem hlt
            rw [Int.zero_add]
            rw [firstF_drop hx] at e
            walk_at "al"
            refine sent0 (ys := [.tup (rs.map (Rd.d C_Room)), .int i]) mono_fault ?_
            refine ⟨rs, i, rs[i], rfl, rfl, hf, hx, rfl, _, rfl, ?_⟩
            rw [e] at p
            cases hfa : faultD rs rs[i] with
            | none =>
              dsimp only [optS]
              walk_at "al"
              refine ar_notN ⟨_, rfl, (fun z => nomatch z), fun _ => ?_⟩
              walk_at "al"
              rw [hfa] at e
              exact ⟨by simp, rfl, ⟨_, _, rfl⟩, e⟩
            | some y =>
              rw [hfa] at p
              dsimp only [optS]
              walk_at "al"
              refine ar_notN ⟨_, rfl, fun _ => ?_, (fun z => nomatch z)⟩
              refine as_raise hE ?_
              walk_at "al"
              exact ⟨[.int i, .str y], rfl, rfl, xt_d p⟩
          · obtain ⟨rfl, ⟨a, b, rfl⟩, e⟩ := hi
            have e : firstF rs 0 rs = none := by
              rw [e, rngD_len, Int.toNat_natCast, List.drop_length]
              rfl
            rw [e] at p
            exact rt_d p
        · obtain ⟨x, hx, rfl⟩ := List.mem_map.mp hd
          walk_at "al"
          exact uc_isiC I (if_pos (beq_self_eq_true _)) ⟨rfl, rfl⟩
    · have h1 := of_decide_eq_false h1
      refine ⟨_, rfl, fun _ => ?_, (fun z => nomatch z)⟩
      refine as_raise hE ?_
      walk_at "al"
      refine ⟨[.int (-1), .str "rooms"], rfl, rfl, xt_d ?_⟩
      rw [show webD rs = some (-1, ("rooms" : Str)) from if_neg (by omega)] at p
      exact p
  · walk_at "al"
    rcases hn with hk | ⟨l, rfl, hn⟩
    · refine uc_isiB ht (b := false) hk ⟨_, rfl, fun _ => ?_, (fun z => nomatch z)⟩
      refine ⟨fun _ => ?_, (fun z => nomatch z)⟩
      refine as_raise hE ?_
      walk_at "al"
      exact ⟨[.int (-1), .str "rooms"], rfl, rfl, xt_d p⟩
    · refine uc_isiB True.intro (b := true) (kit_ty (by decide +kernel)) ⟨_, rfl, (fun z => nomatch z), fun _ => ?_⟩
      walk_at "al"
      have bad : endW C_NoWeb (some (-1, ("rooms" : Str))) (.d .non) [] Φ Ψ := p
      refine iteB (fun h1 => ?_) fun h1 => ?_
      · have h1 := of_decide_eq_true h1
        walk_at "al"
        refine iteB (fun h2 => ?_) fun h2 => ?_
        · refine as_raise hE ?_
          walk_at "al"
          exact ⟨[.int (-1), .str "rooms"], rfl, rfl, xt_d p⟩
        · have h2 : decide ((l.length : Int) ≤ 12) = true := by simpa using h2
          have h2 := of_decide_eq_true h2
          obtain hn | hn | ⟨g, hg, hf⟩ := hn
          · omega
          · omega
          walk_at "al"
          refine ae_map (l := l) (fun y => .bl (g y)) rfl (gk_name rfl) (by rw [sizeLine_eq]; omega) (ai_seqT (ae_var rfl ⟨_, rfl, rfl, rfl, ?_⟩)) fun y hy acc => ?_
          · walk_at "al"
            refine uc_allP g (.lst _) ?_
            rw [hf]
            refine ⟨_, rfl, fun _ => ?_, (fun z => nomatch z)⟩
            refine as_raise hE ?_
            walk_at "al"
            exact ⟨[.int (-1), .str "rooms"], rfl, rfl, xt_d p⟩
          · walk_at "al"
            exact uc_isiC (hg y hy).1 (hg y hy).2 ⟨rfl, rfl⟩
      · have h1 := of_decide_eq_false h1
        refine ⟨_, rfl, fun _ => ?_, (fun z => nomatch z)⟩
        refine as_raise hE ?_
        walk_at "al"
        exact ⟨[.int (-1), .str "rooms"], rfl, rfl, xt_d p⟩
end
end Wd
namespace Wd
open PySem PyProof.Rows L2 Al Gx
variable [Al.TabList]
theorem sc_Web___init__ : FnScope ["self", "rooms"] ["self", "rooms"] (defScope (inClass (top 18) 0)) := ⟨rfl, rfl, rfl, by decide +kernel, rfl, by decide +kernel, by decide +kernel⟩
theorem sc_Web_rooms : FnScope ["self"] ["self"] (defScope (inClass (top 18) 1)) := ⟨rfl, rfl, rfl, by decide +kernel, rfl, by decide +kernel, by decide +kernel⟩
def webV (C CW : Addr) (rs : List Rd) : D := .ins CW ["kept"] [.tup (rs.map (Rd.d C))]
structure WebC (K : PySem.W.Frag) (CW : Addr) : Prop where
  cl : Cls K CW
  kept : NoAttr K CW "kept"
def aInitW (C CW CE : Addr) : ASp := fun xs M Φ Ψ => ∃ (rs : List Rd), xs = [.m 0, .d (.tup (rs.map (Rd.d C)))] ∧ M = [.ins CW [] []] ∧ (∀ x ∈ rs, x.Fine) ∧ rs.length ≤ 1000 ∧
  (match webD rs with | none => Φ (.d .non) [.ins CW ["kept"] [.d (.tup (rs.map (Rd.d C)))]] | some (k, s) => Ψ (CE, [("at", .int k), ("what", .str s)]) [.ins CW [] []])
theorem mono_initW {C CW CE : Addr} : Mono (aInitW C CW CE) := fun xs M Φ Φ' Ψ Ψ' h1 h2 ⟨rs, e1, e2, e3, e4, p⟩ => ⟨rs, e1, e2, e3, e4, by
  cases e : webD rs with
  | none => rw [e] at p; exact h1 _ _ p
  | some q => rw [e] at p; exact h2 _ _ p⟩
def aRoomsW (C CW : Addr) : ASp := fun xs M Φ _ => ∃ (rs : List Rd), xs = [.d (webV C CW rs)] ∧ M = [] ∧ Φ (.d (.tup (rs.map (Rd.d C)))) []
theorem mono_roomsW {C CW : Addr} : Mono (aRoomsW C CW) := fun xs M Φ Φ' Ψ Ψ' h1 _ ⟨rs, e1, e2, p⟩ => ⟨rs, e1, e2, h1 _ _ p⟩
/-- what a room hears -/
def ears (rs : List Rd) (k : Int) : List Int := match rs[k.toNat]? with | some x => (earsOf x.h).map toI | none => []
inductive Reach (rs : List Rd) (r : Int) : Int → Prop
  | here : Reach rs r r
  | step {k j : Int} (h : Reach rs r k) (hj : j ∈ ears rs k) : Reach rs r j
/-- the ears are right -/
def Heard (rs : List Rd) : Prop := ∀ (k : Nat) (x : Rd), rs[k]? = some x → hearsB rs.length x.h = true
theorem ears_in {rs : List Rd} (h : Heard rs) {k : Int} : (∀ j ∈ ears rs k, 0 ≤ j ∧ j < rs.length) ∧ (ears rs k).length ≤ 3 := by
  unfold ears
  cases e : rs[k.toNat]? with
  | none => exact ⟨by simp, by simp⟩
  | some x =>
    obtain ⟨l, el, h3, hall, _⟩ := hears_in (h _ _ e)
    dsimp only
    rw [el]
    refine ⟨fun j hj => ?_, by show (l.map toI).length ≤ 3; rw [List.length_map]; exact h3⟩
    obtain ⟨d, hd, rfl⟩ := List.mem_map.mp (show j ∈ l.map toI from hj)
    obtain ⟨i, rfl, hi⟩ := ear_in (List.all_eq_true.mp hall d hd)
    show 0 ≤ (i : Int) ∧ (i : Int) < _
    omega
/-- how far the walk of a lot is -/
structure LotI (rs : List Rd) (r : Int) (fs ws : List Int) : Prop where
  nd : fs.Nodup
  rg : ∀ k, k ∈ fs ∨ k ∈ ws → 0 ≤ k ∧ k < rs.length
  re : ∀ k, k ∈ fs ∨ k ∈ ws → Reach rs r k
  be : r ∈ fs ∨ r ∈ ws
  cl : ∀ k ∈ fs, ∀ j ∈ ears rs k, j ∈ fs ∨ j ∈ ws
theorem LotI.few {rs : List Rd} {r : Int} {fs ws : List Int} (h : LotI rs r fs ws) : fs.length ≤ rs.length := by
  have := len_le (out := fs) (ns := (List.range rs.length).map fun (i : Nat) => (i : Int)) h.nd fun k hk => by
    obtain ⟨h0, h1⟩ := h.rg k (.inl hk)
    exact List.mem_map.mpr ⟨k.toNat, List.mem_range.mpr (by omega), by omega⟩
  simpa using this
theorem LotI.done {rs : List Rd} {r : Int} {fs : List Int} (h : LotI rs r fs []) (k : Int) : k ∈ fs ↔ Reach rs r k := by
  refine ⟨fun hk => h.re k (.inl hk), fun hk => ?_⟩
  induction hk with
  | here => exact h.be.elim id (by simp)
  | step _ hj ih => exact (h.cl _ ih _ hj).elim id (by simp)
theorem LotI.old {rs : List Rd} {r k : Int} {fs ws : List Int} (h : LotI rs r fs (ws ++ [k])) (hk : k ∈ fs) : LotI rs r fs ws := by
  refine ⟨h.nd, fun j hj => h.rg j ?_, fun j hj => h.re j ?_, ?_, fun j hj i hi => ?_⟩
  · rcases hj with hj | hj
    · exact .inl hj
    · exact .inr (List.mem_append_left _ hj)
  · rcases hj with hj | hj
    · exact .inl hj
    · exact .inr (List.mem_append_left _ hj)
  · rcases h.be with hb | hb
    · exact .inl hb
    · rcases List.mem_append.mp hb with hb | hb
      · exact .inr hb
      · rw [List.mem_singleton.mp hb]; exact .inl hk
  · rcases h.cl j hj i hi with hb | hb
    · exact .inl hb
    · rcases List.mem_append.mp hb with hb | hb
      · exact .inr hb
      · rw [List.mem_singleton.mp hb]; exact .inl hk
theorem LotI.new {rs : List Rd} {r k : Int} {fs ws : List Int} (hh : Heard rs) (h : LotI rs r fs (ws ++ [k])) (hk : k ∉ fs) : LotI rs r (fs ++ [k]) (ws ++ ears rs k) := by
  have kr := h.re k (.inr (by simp))
  have kg := h.rg k (.inr (by simp))
  have mv : ∀ j, j ∈ fs ∨ j ∈ ws ++ [k] → j ∈ fs ++ [k] ∨ j ∈ ws ++ ears rs k := fun j hj => by
    rcases hj with hj | hj
    · exact .inl (List.mem_append_left _ hj)
    · rcases List.mem_append.mp hj with hj | hj
      · exact .inr (List.mem_append_left _ hj)
      · exact .inl (List.mem_append_right _ hj)
  refine ⟨List.nodup_append.mpr ⟨h.nd, by simp, fun a ha b hb e => hk ?_⟩, fun j hj => ?_, fun j hj => ?_, mv r h.be, fun j hj i hi => ?_⟩
  · rw [List.mem_singleton.mp hb] at e
    exact e ▸ ha
  · rcases hj with hj | hj
    · rcases List.mem_append.mp hj with hj | hj
      · exact h.rg j (.inl hj)
      · rw [List.mem_singleton.mp hj]; exact kg
    · rcases List.mem_append.mp hj with hj | hj
      · exact h.rg j (.inr (List.mem_append_left _ hj))
      · exact (ears_in hh).1 j hj
  · rcases hj with hj | hj
    · rcases List.mem_append.mp hj with hj | hj
      · exact h.re j (.inl hj)
      · rw [List.mem_singleton.mp hj]; exact kr
    · rcases List.mem_append.mp hj with hj | hj
      · exact h.re j (.inr (List.mem_append_left _ hj))
      · exact .step kr hj
  · rcases List.mem_append.mp hj with hj | hj
    · exact mv i (h.cl j hj i hi)
    · rw [List.mem_singleton.mp hj] at hi
      exact .inr (List.mem_append_right _ hi)
local macro_rules | `(tactic| walk_at "alside") => `(tactic| first
  | decide
  | (dsimp only; decide)
  | exact Or.inr (by decide)
  | exact Or.inl (by decide)
  | (dsimp only; omega)
  | (unfold CDiv; omega)
  | (unfold CPow; omega)
  | (unfold CMul; omega)
  | assumption)
local macro_rules | `(tactic| walk_at "al1") => `(tactic| first
  | with_reducible refine as_asg ?_
  | with_reducible refine as_drop ?_
  | with_reducible refine as_ret ?_
  | with_reducible refine as_if ?_
  | with_reducible refine as_next ?_
  | with_reducible refine at_test ?_
  | with_reducible refine at_b ?_
  | with_reducible refine at_and ?_
  | with_reducible refine at_or ?_
  | with_reducible refine at_not ?_
  | with_reducible refine ae_op ?_
  | with_reducible refine ae_un ?_
  | with_reducible refine ae_cb ?_
  | with_reducible refine ae_if ?_
  | with_reducible refine ae_andV ?_
  | with_reducible refine ae_orV ?_
  | with_reducible refine ae_notV ?_
  | with_reducible refine ae_chain ?_
  | with_reducible refine ae_int ?_
  | with_reducible refine ae_bl ?_
  | with_reducible refine ae_non ?_
  | with_reducible refine ae_str ?_
  | with_reducible refine ae_ty ?_
  | with_reducible refine ae_adr ?_
  | with_reducible refine aa_nil ?_
  | with_reducible refine aa_cons ?_
  | with_reducible refine ag_name ?_
  | with_reducible refine ag_sub ?_
  | with_reducible refine at_yes ?_
  | ((with_reducible show AE _ _ (tVar _) _ _ _); refine ae_var rfl ?_)
  | ((with_reducible show AR _ _ (uAdd _) _ _ _ _); refine ur_addI ?_)
  | ((with_reducible show AR _ _ (uMul _) _ _ _ _); refine ur_mulI (by walk_at "alside") ?_)
  | ((with_reducible show AR _ _ (uEq _) _ _ _ _); first | refine ur_eqI ?_ | refine ur_eqS ?_ | refine ur_eqB ?_)
  | ((with_reducible show AR _ _ (uNe _) _ _ _ _); first | refine ur_neI ?_ | refine ur_neS ?_ | refine ur_neB ?_)
  | ((with_reducible show AR _ _ (rIx _) _ _ _ _); first | refine ur_ixM rfl rfl ?_ | refine ur_ixL rfl ?_ | refine ur_ixT rfl ?_ | refine ur_ixS rfl ?_)
  | ((with_reducible show AC _ _ (uLen _) _ _ _); first | refine uc_len (.tup _) ?_ | refine uc_len (.lst _) ?_ | refine uc_len (.scr _) ?_ | refine uc_len (.mm rfl) ?_)
  | ((with_reducible show AR _ _ (rI0 _) _ _ _ _); first | with_reducible refine ar_i0 ?_ | with_reducible refine ar_b0 ?_)
  | ((with_reducible show AU _ _ (rU _) _ _ _); with_reducible refine au_i ?_)
  | ((with_reducible show AR _ _ (rI _ _) _ _ _ _); refine ar_i (by walk_at "alside") ?_)
  | ((with_reducible show AR _ _ (rIxL _) _ _ _ _); first | refine ar_ixM rfl rfl ?_ | refine ar_ixL rfl ?_ | refine ar_ixS rfl ?_)
  | ((with_reducible show AR _ _ (rIxT _) _ _ _ _); refine ar_ixT rfl ?_)
  | ((with_reducible show AR _ _ rEq _ _ _ _); first | with_reducible refine ar_eqI ?_ | with_reducible refine ar_eqS ?_ | with_reducible refine ar_eqB ?_)
  | ((with_reducible show AR _ _ rNe _ _ _ _); first | with_reducible refine ar_neI ?_ | with_reducible refine ar_neS ?_ | with_reducible refine ar_neB ?_))
local macro_rules | `(tactic| walk_at "alds") => `(tactic| first
  | refine ⟨[], rfl, Nat.le_of_ble_eq_true rfl, ?_⟩
  | refine ⟨[_], rfl, Nat.le_of_ble_eq_true rfl, ?_⟩
  | refine ⟨[_, _], rfl, Nat.le_of_ble_eq_true rfl, ?_⟩
  | refine ⟨[_, _, _], rfl, Nat.le_of_ble_eq_true rfl, ?_⟩
  | refine ⟨[_, _, _, _], rfl, Nat.le_of_ble_eq_true rfl, ?_⟩
  | refine ⟨[_, _, _, _, _], rfl, Nat.le_of_ble_eq_true rfl, ?_⟩
  | refine ⟨[_, _, _, _, _, _], rfl, Nat.le_of_ble_eq_true rfl, ?_⟩
  | refine ⟨[_, _, _, _, _, _, _], rfl, Nat.le_of_ble_eq_true rfl, ?_⟩
  | refine ⟨[_, _, _, _, _, _, _, _], rfl, Nat.le_of_ble_eq_true rfl, ?_⟩
  | refine ⟨[_, _, _, _, _, _, _, _, _], rfl, Nat.le_of_ble_eq_true rfl, ?_⟩
  | refine ⟨[_, _, _, _, _, _, _, _, _, _], rfl, Nat.le_of_ble_eq_true rfl, ?_⟩
  | refine ⟨[_, _, _, _, _, _, _, _, _, _, _], rfl, Nat.le_of_ble_eq_true rfl, ?_⟩
  | refine ⟨[_, _, _, _, _, _, _, _, _, _, _, _], rfl, Nat.le_of_ble_eq_true rfl, ?_⟩)
local macro_rules | `(tactic| walk_at "alc") => `(tactic| refine ae_call0 (Ψ := fun _ _ => False) (by walk_at "almono") efits_none ?_)
local macro_rules | `(tactic| walk_at "al") => `(tactic| repeat (first | walk_at "al1" | with_reducible refine as_seq ?_ | with_reducible refine ae_tup ?_ | with_reducible walk_at "alc" | refine ⟨_, rfl, ?_⟩ | walk_at "alds" | refine ⟨_, _, _, _, _, rfl, rfl, rfl, rfl, rfl, ?_⟩))
local macro_rules | `(tactic| walk_at "alF") => `(tactic| repeat (first | walk_at "al1" | with_reducible refine as_seq ?_ | with_reducible refine ae_tup ?_ | with_reducible refine ae_lst ?_ | with_reducible walk_at "alc" | refine ⟨_, rfl, ?_⟩ | walk_at "alds" | refine ⟨_, _, _, _, _, rfl, rfl, rfl, rfl, rfl, ?_⟩))
local macro_rules | `(tactic| walk_at "alo") => `(tactic| repeat (first | walk_at "al1" | with_reducible refine ae_tup ?_ | with_reducible walk_at "alc" | refine ⟨_, rfl, ?_⟩ | walk_at "alds" | refine ⟨_, _, _, _, _, rfl, rfl, rfl, rfl, rfl, ?_⟩))
local macro_rules | `(tactic| walk_at "almono") => `(tactic| first | exact mono_whole | exact mono_from | exact mono_size | exact mono_hears | exact mono_rows | exact mono_rule | exact mono_fault)
section
variable {P : Program} {w : World} {K : PySem.W.Frag} {mg : Str → Option Value} {base : Heap} {C_Room C_Web C_NoWeb C_NoRoom : Addr}
theorem ok_initW {kws : List KwE} (D : MkDef K mg C_Web "Web" "Web.__init__" (inClass (top 18) 0) ["self", "rooms"] kws) (W : WebC K C_Web) (G_look_rooms : FnAt P w K mg base (L2.CX P w) 7 "look_rooms" ["rooms"] (aLook K C_Room C_NoWeb)) :
    MkAt P w K mg base (L2.CX P w) 8 C_Web "Web" ["self", "rooms"] (aInitW C_Room C_Web C_NoWeb) kws := by
  refine mkatX D sc_Web___init__ (fun xs M Φ Ψ h => ?_) (fun f cdv A outer s H E hr => ⟨_, (pss_cons (ps_expr (pe_fn G_look_rooms (hr.mono (by decide)) rfl (passes_call (takes_of rfl rfl rfl rfl) (fun _ _ _ _ h => h)) (pa_cons (pv 1) pa_nil))) (pss_one (ps_fld (pv 0) (pv 1) rfl))), fun B xs M Φ Ψ hB h hE => ?_⟩)
  · obtain ⟨rs, rfl, _⟩ := h
    rfl
  · obtain ⟨rs, rfl, rfl, hf, hbig, p⟩ := h
    walk_at "al"
    refine ae_call0 (Ψ := XT 1 Ψ) mono_look hE ?_
    walk_at "al"
    refine sent0 (ys := [.tup (rs.map (Rd.d C_Room))]) mono_look ?_
    refine .inl ⟨rs, rfl, rfl, hf, hbig, ?_⟩
    cases e : webD rs with
    | none =>
      rw [e] at p
      refine ⟨rfl, _, rfl, ?_⟩
      refine as_fld (ae_var rfl (ae_var rfl ⟨0, C_Web, [], [], rfl, rfl, W.cl, W.kept, by simp, by decide, ?_⟩))
      exact Or.inl ⟨1, .d .non, Nat.le_refl _, .dat, by simp [MO.below, AV.below], p⟩
    | some q =>
      rw [e] at p
      exact ⟨rfl, 1, Nat.le_refl _, by simp [MO.below], p⟩
theorem ok_roomsW (D : MethDef K C_Web "rooms" "Web.rooms" (inClass (top 18) 1) ["self"]) (W : WebC K C_Web) : MethAt P w K mg base CX0 1 C_Web "rooms" ["self"] (aRoomsW C_Room C_Web) := by
  refine mtat D sc_Web_rooms (fun xs M Φ Ψ h => ?_) (fun f cdv A outer s H E hr => ⟨_, (pss_one (ps_ret (pe_fldK K (pv 0) (by rfl)))), fun B xs M Φ Ψ hB h => ?_⟩)
  · obtain ⟨rs, rfl, _⟩ := h
    rfl
  · obtain ⟨rs, rfl, rfl, p⟩ := h
    walk_at "al"
    exact ae_fld (ae_var rfl ⟨C_Web, ["kept"], _, _, rfl, W.cl, W.kept, rfl, rt_d p⟩)
end
end Wd
namespace Wd
open PySem PyProof.Rows L2 Al Gx
variable [Al.TabList]
theorem sc_Room___init__ : FnScope ["self", "hears", "size", "first", "rule"] ["self", "hears", "size", "first", "rule"] (defScope (inClass (top 6) 0)) := ⟨rfl, rfl, rfl, by decide +kernel, rfl, by decide +kernel, by decide +kernel⟩
abbrev sInit : Stmt := (inClass (top 6) 0)
abbrev psI : List Str := ["self", "hears", "size", "first", "rule"]
/-- the keyword-only defaults: 2, 0, (0,) at T2 -/
abbrev kwI (T2 : Addr) : List (Str × V) := [("size", .int 2), ("first", .int 0), ("rule", .ref T2)]
def aInitR (C : Addr) : ASp := fun xs M Φ _ => ∃ h s f r : D, xs = [.m 0, .d h, .d s, .d f, .d r] ∧ M = [.ins C [] []] ∧ Φ (.d .non) [.ins C nms [.d h, .d s, .d f, .d r]]
theorem mono_initR {C : Addr} : Mono (aInitR C) := fun xs M Φ Φ' Ψ Ψ' h1 _ ⟨h, s, f, r, e1, e2, p⟩ => ⟨h, s, f, r, e1, e2, h1 _ _ p⟩
section
variable {K : PySem.W.Frag} {f T1 T2 : Addr} {fd : FuncData}
abbrev FI (K : PySem.W.Frag) (T1 T2 f : Addr) (fd : FuncData) : Prop := FunD K "__init__" "Room.__init__" (defArgs sInit) (defBody sInit) (defScope sInit) [.ref T1] (kwI T2) f fd
abbrev KB (K : PySem.W.Frag) (fd : FuncData) (n : Nat) (ks : List Str) (ix : List Nat) (T1 : Addr) (mv : List V) : Prop := ∃ its mz : List Value, KBn K fd psI n ks (fun us ws => pick ix us its mz ws) (fun vs zs => pick ix vs [.ref T1] mv zs)
theorem kb1 (F : FI K T1 T2 f fd) : KB K fd 2 ["size", "first", "rule"] [0, 1, 3, 4, 5] T1 [] :=
  F.kbinds 2 ["size", "first", "rule"] [] (pick [0, 1, 3, 4, 5]) (by simp) (by simp) (by simp) (pick_rel _) fun T D doc pm an cdv ct us its mv ws h1 h2 h3 h4 =>
    match us, its, mv, ws, h1, h2, h3, h4 with
    | [_, _], [_], [], [_, _, _], _, _, _, _ => ⟨_, rfl, rfl⟩
end
/-- how Room(..) is made: its class, its __init__, the defaults -/
structure RoomM (K : PySem.W.Frag) (C T1 T2 fI : Addr) (fdI : FuncData) : Prop where
  mk_ : Mk K C fI
  fi : FI K T1 T2 fI fdI
  t1 : ∀ W, RD K W (.tup []) (.ref T1)
  t2 : ∀ W, RD K W (.tup [.int 0]) (.ref T2)
section
variable {P : Program} {w : World} {K : PySem.W.Frag} {mg : Str → Option Value} {base : Heap} {C : Addr}
theorem ok_initR {f T1 T2 : Addr} {fd : FuncData} (F : FI K T1 T2 f fd) (T : RoomC K C) : FnOk P w K mg base CX0 1 f fd psI (conc K (aInitR C)) := by
  refine fn_alD F sc_Room___init__ (fun xs M Φ Ψ h => ?_) (fun cdv A outer s H E hr => ⟨_, (pss_cons (ps_fld (pv 0) (pv 1) rfl) (pss_cons (ps_fld (pv 0) (pv 2) rfl) (pss_cons (ps_fld (pv 0) (pv 3) rfl) (pss_one (ps_fld (pv 0) (pv 4) rfl))))), fun B xs M Φ Ψ hB h _ => ?_⟩)
  · obtain ⟨h, s, f, r, rfl, _⟩ := h
    rfl
  · obtain ⟨h, s, f, r, rfl, rfl, k⟩ := h
    refine as_seq (as_fld (ae_var rfl (ae_var rfl ⟨0, C, _, _, rfl, rfl, T.cl, T.hears, by decide +kernel, by decide, ?_⟩)))
    refine as_seq (as_fld (ae_var rfl (ae_var rfl ⟨0, C, _, _, rfl, rfl, T.cl, T.size, by decide +kernel, by decide, ?_⟩)))
    refine as_seq (as_fld (ae_var rfl (ae_var rfl ⟨0, C, _, _, rfl, rfl, T.cl, T.first, by decide +kernel, by decide, ?_⟩)))
    refine as_fld (ae_var rfl (ae_var rfl ⟨0, C, _, _, rfl, rfl, T.cl, T.rule, by decide +kernel, by decide, ?_⟩))
    exact Or.inl ⟨1, .d .non, Nat.le_refl _, .dat, by simp [MO.below, AV.below], k⟩
end
theorem sent_room {C : Addr} {M : List MO} {Φ : AV → List MO → Prop} {Ψ : Exc → List MO → Prop} {h s f r : D} (hM : ∀ o ∈ M, o.below M.length = true) (k : Φ (.d (Rd.d C ⟨h, s, f, r⟩)) M) : Sent (aInitR C) (.m M.length :: [AV.d h, .d s, .d f, .d r]) (M ++ [.ins C [] []]) (MadeOk C M.length Φ) Ψ :=
  sentI (ys := [h, s, f, r]) mono_initR hM ⟨h, s, f, r, rfl, rfl, rfl, nms, [h, s, f, r], rfl, k⟩
end Wd
namespace Wd
open PySem PyProof.Rows L2 Al Gx
variable [Al.TabList]
abbrev sBag : Stmt := (top 25)
abbrev sTake : Stmt := (top 26)
def bag (g x c : Int) : MO := .lst [.int g, .int x, .int c]
def aBag : ASp := fun xs M Φ _ => ∃ (ns : List Int) (k : Int), xs = [.d (.scr (ns.map D.int)), .d (.int k)] ∧ M = [] ∧ 0 ≤ k ∧ k < 5 ∧ ns.length ≤ 100 ∧ ∀ g x, Φ (.m 0) [bag g x 0]
theorem mono_bag : Mono aBag := fun xs M Φ Φ' Ψ Ψ' h1 _ ⟨ns, k, e1, e2, a, b, c, p⟩ => ⟨ns, k, e1, e2, a, b, c, fun g x => h1 _ _ (p g x)⟩
def aTake : ASp := fun xs M Φ _ => ∃ (g x c n : Int), xs = [.m 0, .d (.int n)] ∧ M = [bag g x c] ∧ 0 < n ∧ n < 1000000 ∧ ∀ (r g' x' c' : Int), 0 ≤ r → r < n → Φ (.d (.int r)) [bag g' x' c']
theorem mono_take : Mono aTake := fun xs M Φ Φ' Ψ Ψ' h1 _ ⟨g, x, c, n, e1, e2, a, b, p⟩ => ⟨g, x, c, n, e1, e2, a, b, fun r g' x' c' h h' => h1 _ _ (p r g' x' c' h h')⟩
theorem scBag : FnScope ["_law_script", "_law_at", "_law_high", "_law_great", "_law_primes"] ["_law_script", "_law_at"] (defScope sBag) := ⟨rfl, rfl, rfl, by decide +kernel, rfl, by decide +kernel, by decide +kernel⟩
theorem scTake : FnScope ["_law_bag_here", "_law_many", "_law_digit"] ["_law_bag_here", "_law_many"] (defScope sTake) := ⟨rfl, rfl, rfl, by decide +kernel, rfl, by decide +kernel, by decide +kernel⟩
local macro_rules | `(tactic| walk_at "alside") => `(tactic| first
  | decide
  | (dsimp only; decide)
  | exact Or.inr (by decide)
  | exact Or.inl (by decide)
  | (dsimp only; omega)
  | (unfold CDiv; omega)
  | (unfold CPow; omega)
  | (unfold CMul; omega)
  | assumption)
local macro_rules | `(tactic| walk_at "al1") => `(tactic| first
  | with_reducible refine as_asg ?_
  | with_reducible refine as_drop ?_
  | with_reducible refine as_ret ?_
  | with_reducible refine as_if ?_
  | with_reducible refine as_next ?_
  | with_reducible refine at_test ?_
  | with_reducible refine at_b ?_
  | with_reducible refine at_and ?_
  | with_reducible refine at_or ?_
  | with_reducible refine at_not ?_
  | with_reducible refine ae_op ?_
  | with_reducible refine ae_un ?_
  | with_reducible refine ae_cb ?_
  | with_reducible refine ae_if ?_
  | with_reducible refine ae_andV ?_
  | with_reducible refine ae_orV ?_
  | with_reducible refine ae_notV ?_
  | with_reducible refine ae_chain ?_
  | with_reducible refine ae_int ?_
  | with_reducible refine ae_bl ?_
  | with_reducible refine ae_non ?_
  | with_reducible refine ae_str ?_
  | with_reducible refine ae_ty ?_
  | with_reducible refine ae_adr ?_
  | with_reducible refine aa_nil ?_
  | with_reducible refine aa_cons ?_
  | with_reducible refine ag_name ?_
  | with_reducible refine ag_sub ?_
  | with_reducible refine at_yes ?_
  | ((with_reducible show AE _ _ (tVar _) _ _ _); refine ae_var rfl ?_)
  | ((with_reducible show AR _ _ (uAdd _) _ _ _ _); refine ur_addI ?_)
  | ((with_reducible show AR _ _ (uMul _) _ _ _ _); refine ur_mulI (by walk_at "alside") ?_)
  | ((with_reducible show AR _ _ (uEq _) _ _ _ _); first | refine ur_eqI ?_ | refine ur_eqS ?_ | refine ur_eqB ?_)
  | ((with_reducible show AR _ _ (uNe _) _ _ _ _); first | refine ur_neI ?_ | refine ur_neS ?_ | refine ur_neB ?_)
  | ((with_reducible show AR _ _ (rIx _) _ _ _ _); first | refine ur_ixM rfl rfl ?_ | refine ur_ixL rfl ?_ | refine ur_ixT rfl ?_ | refine ur_ixS rfl ?_)
  | ((with_reducible show AC _ _ (uLen _) _ _ _); first | refine uc_len (.tup _) ?_ | refine uc_len (.lst _) ?_ | refine uc_len (.scr _) ?_ | refine uc_len (.mm rfl) ?_)
  | ((with_reducible show AR _ _ (rI0 _) _ _ _ _); first | with_reducible refine ar_i0 ?_ | with_reducible refine ar_b0 ?_)
  | ((with_reducible show AU _ _ (rU _) _ _ _); with_reducible refine au_i ?_)
  | ((with_reducible show AR _ _ (rI _ _) _ _ _ _); refine ar_i (by walk_at "alside") ?_)
  | ((with_reducible show AR _ _ (rIxL _) _ _ _ _); first | refine ar_ixM rfl rfl ?_ | refine ar_ixL rfl ?_ | refine ar_ixS rfl ?_)
  | ((with_reducible show AR _ _ (rIxT _) _ _ _ _); refine ar_ixT rfl ?_)
  | ((with_reducible show AR _ _ rEq _ _ _ _); first | with_reducible refine ar_eqI ?_ | with_reducible refine ar_eqS ?_ | with_reducible refine ar_eqB ?_)
  | ((with_reducible show AR _ _ rNe _ _ _ _); first | with_reducible refine ar_neI ?_ | with_reducible refine ar_neS ?_ | with_reducible refine ar_neB ?_))
local macro_rules | `(tactic| walk_at "alds") => `(tactic| first
  | refine ⟨[], rfl, Nat.le_of_ble_eq_true rfl, ?_⟩
  | refine ⟨[_], rfl, Nat.le_of_ble_eq_true rfl, ?_⟩
  | refine ⟨[_, _], rfl, Nat.le_of_ble_eq_true rfl, ?_⟩
  | refine ⟨[_, _, _], rfl, Nat.le_of_ble_eq_true rfl, ?_⟩
  | refine ⟨[_, _, _, _], rfl, Nat.le_of_ble_eq_true rfl, ?_⟩
  | refine ⟨[_, _, _, _, _], rfl, Nat.le_of_ble_eq_true rfl, ?_⟩
  | refine ⟨[_, _, _, _, _, _], rfl, Nat.le_of_ble_eq_true rfl, ?_⟩
  | refine ⟨[_, _, _, _, _, _, _], rfl, Nat.le_of_ble_eq_true rfl, ?_⟩
  | refine ⟨[_, _, _, _, _, _, _, _], rfl, Nat.le_of_ble_eq_true rfl, ?_⟩
  | refine ⟨[_, _, _, _, _, _, _, _, _], rfl, Nat.le_of_ble_eq_true rfl, ?_⟩
  | refine ⟨[_, _, _, _, _, _, _, _, _, _], rfl, Nat.le_of_ble_eq_true rfl, ?_⟩
  | refine ⟨[_, _, _, _, _, _, _, _, _, _, _], rfl, Nat.le_of_ble_eq_true rfl, ?_⟩
  | refine ⟨[_, _, _, _, _, _, _, _, _, _, _, _], rfl, Nat.le_of_ble_eq_true rfl, ?_⟩)
local macro_rules | `(tactic| walk_at "alc") => `(tactic| refine ae_call0 (Ψ := fun _ _ => False) (by walk_at "almono") efits_none ?_)
local macro_rules | `(tactic| walk_at "al") => `(tactic| repeat (first | walk_at "al1" | with_reducible refine as_seq ?_ | with_reducible refine ae_tup ?_ | with_reducible walk_at "alc" | refine ⟨_, rfl, ?_⟩ | walk_at "alds" | refine ⟨_, _, _, _, _, rfl, rfl, rfl, rfl, rfl, ?_⟩))
local macro_rules | `(tactic| walk_at "alF") => `(tactic| repeat (first | walk_at "al1" | with_reducible refine as_seq ?_ | with_reducible refine ae_tup ?_ | with_reducible refine ae_lst ?_ | with_reducible walk_at "alc" | refine ⟨_, rfl, ?_⟩ | walk_at "alds" | refine ⟨_, _, _, _, _, rfl, rfl, rfl, rfl, rfl, ?_⟩))
local macro_rules | `(tactic| walk_at "alo") => `(tactic| repeat (first | walk_at "al1" | with_reducible refine ae_tup ?_ | with_reducible walk_at "alc" | refine ⟨_, rfl, ?_⟩ | walk_at "alds" | refine ⟨_, _, _, _, _, rfl, rfl, rfl, rfl, rfl, ?_⟩))
section
variable {P : Program} {w : World} {K : PySem.W.Frag} {mg : Str → Option Value} {base : Heap}
theorem rt1 {Φ : AV → List MO → Prop} {d : D} {l l' : List D} (h : Φ (.d d) [.lst l']) : RT 1 Φ (.d d) [.lst l'] := Or.inl ⟨1, .d d, Nat.le_refl _, .dat, by simp [MO.below], h⟩
theorem ok_take {f : Addr} {fd : FuncData} (F : Fun K "_law_take" "_law_take" sTake f fd) : FnOk P w K mg base CX0 1 f fd ["_law_bag_here", "_law_many"] (conc K aTake) := by
  refine fn_al F scTake (fun xs M Φ Ψ h => ?_) (fun cdv A outer s H E hr => ⟨_, pss_cons (ps_if (pt_cmpR op_gt (pe_ix ix_list (pv 0) pe_int (fun _ _ => rfl)) pe_int (nomark _))
      (pss_cons (ps_set (i := 2) scTake.nd rfl (Or.inl rfl) (pe_op op_mod (pe_ix ix_list (pv 0) pe_int (fun _ _ => rfl)) (pv 1)))
        (pss_cons (ps_asg (pe_op op_fdiv (pe_ix ix_list (pv 0) pe_int (fun _ _ => rfl)) (pv 1)) (pg_sub (pv 0) pe_int set_list)) (pss_one (ps_ret (pv 2))))) pss_nil)
      (pss_cons (ps_asg (pe_op op_add (pe_ix ix_list (pv 0) pe_int (fun _ _ => rfl)) pe_int) (pg_sub (pv 0) pe_int set_list))
        (pss_cons (ps_asg (pe_op op_mod (pe_op op_add (pe_op op_add (pe_op op_mul (pe_ix ix_list (pv 0) pe_int (fun _ _ => rfl)) pe_int) (pe_op op_mul pe_int (pe_ix ix_list (pv 0) pe_int (fun _ _ => rfl)))) pe_int) pe_int) (pg_sub (pv 0) pe_int set_list))
          (pss_one (ps_ret (pe_op op_mod (pe_op op_mod (pe_op op_pow (pe_op op_fdiv (pe_ix ix_list (pv 0) pe_int (fun _ _ => rfl)) pe_int) pe_int) pe_int) (pv 1)))))), fun B xs M Φ Ψ hB h => ?_⟩)
  · obtain ⟨g, x, c, n, rfl, _⟩ := h
    rfl
  · obtain ⟨g, x, c, n, rfl, rfl, hn, hn2, k⟩ := h
    walk_at "al"
    refine ⟨fun hg => ?_, fun hg => ?_⟩
    · walk_at "al"
      exact rt1 (l := []) (k _ _ _ _ (Int.emod_nonneg _ (by omega)) (Int.emod_lt_of_pos _ hn))
    · walk_at "al"
      exact rt1 (l := []) (k _ _ _ _ (Int.emod_nonneg _ (by omega)) (Int.emod_lt_of_pos _ hn))
theorem prime_at {k : Int} (h0 : 0 ≤ k) (h : k < 5) (l : List D) (hl : l = [.int 2147483629, .int 2147483587, .int 2147483579, .int 2147483563, .int 2147483549, .int 2147483543, .int 2147483497, .int 2147483489]) : ∃ p, 0 < p ∧ atI l (k % 8) = some (.int p) := by
  subst hl
  obtain rfl | rfl | rfl | rfl | rfl : k = 0 ∨ k = 1 ∨ k = 2 ∨ k = 3 ∨ k = 4 := by omega
  all_goals exact ⟨_, by decide, rfl⟩
theorem atI_ints {ns : List Int} {k : Int} (h0 : 0 ≤ k) (h : k < (ns.length : Int)) : ∃ i, atI (ns.map D.int) k = some (.int i) := by
  have hk : k.toNat < ns.length := by omega
  refine ⟨ns[k.toNat], ?_⟩
  unfold atI ixN
  rw [List.length_map, if_pos h0, if_pos h, Option.bind_some, List.getElem?_map, List.getElem?_eq_getElem hk]
  rfl
theorem ok_bag {f : Addr} {fd : FuncData} (F : Fun K "_law_bag" "_law_bag" sBag f fd) (T : Bt mg) : FnOk P w K mg base CX0 1 f fd ["_law_script", "_law_at"] (conc K aBag) := by
  refine fn_al F scBag (fun xs M Φ Ψ h => ?_) (fun cdv A outer s H E hr => ⟨_, pss_cons (ps_set (i := 2) scBag.nd rfl (Or.inl rfl) pe_int)
      (pss_cons (ps_if (pt_cmpR op_lt (pv 1) (pe_callB call_len_seq (by rfl) T.len PySem.boot_len (pa_cons (pv 0) pa_nil)) (nomark _)) (pss_one (ps_set (i := 2) scBag.nd rfl (Or.inl rfl) (pe_ix ix_list (pv 0) (pv 1) (fun _ _ => rfl)))) pss_nil)
      (pss_cons (ps_set (i := 3) scBag.nd rfl (Or.inl rfl) pe_int)
      (pss_cons (ps_if (pt_cmpR op_ge (pe_callB call_abs (by rfl) T.abs (by decide +kernel) (pa_cons (pv 2) pa_nil)) (pe_op op_pow pe_int pe_int) (nomark _)) (pss_one (ps_set (i := 3) scBag.nd rfl (Or.inl rfl) (pe_callB call_abs (by rfl) T.abs (by decide +kernel) (pa_cons (pv 2) pa_nil)))) pss_nil)
      (pss_cons (ps_set (i := 4) scBag.nd rfl (Or.inl rfl) (pe_lst (pa_cons pe_int (pa_cons pe_int (pa_cons pe_int (pa_cons pe_int (pa_cons pe_int (pa_cons pe_int (pa_cons pe_int (pa_cons pe_int pa_nil))))))))))
      (pss_one (ps_ret (pe_lst (pa_cons (pv 3) (pa_cons (pe_op op_mod (pe_op op_pow (pe_op op_add (pe_op op_add (pe_op op_mod (pv 2) pe_int) (pe_op op_mul pe_int (pv 1))) pe_int) pe_int) (pe_ix ix_list (pv 4) (pe_op op_mod (pv 1) pe_int) (fun _ _ => rfl))) (pa_cons pe_int pa_nil)))))))))), fun B xs M Φ Ψ hB h => ?_⟩)
  · obtain ⟨ns, k, rfl, _⟩ := h
    rfl
  · obtain ⟨ns, k, rfl, rfl, h0, h5, hn, q⟩ := h
    refine as_seq ?_
    walk_at "alo"
    refine as_cut (fun σ' M' => ∃ cell : Int, σ' = [some (.d (.scr (ns.map D.int))), some (.d (.int k)), some (.d (.int cell)), none, none] ∧ M' = []) ?_ ?_
    · walk_at "alo"
      refine ac_len (.scr _) ?_
      walk_at "alo"
      rw [List.length_map]
      refine ⟨fun hb => ?_, fun hb => ?_⟩
      · obtain ⟨i, hi⟩ := atI_ints h0 (of_decide_eq_true hb)
        refine as_asg (ae_op (ae_var rfl (ae_var rfl (ar_ixS hi ?_))))
        walk_at "alo"
        exact rfl
      · exact as_next ⟨_, rfl, rfl⟩
    · rintro σ' M' ⟨cell, rfl, rfl⟩
      refine as_seq ?_
      walk_at "alo"
      refine as_cut (fun σ' M' => ∃ great : Int, σ' = [some (.d (.scr (ns.map D.int))), some (.d (.int k)), some (.d (.int cell)), some (.d (.int great)), none] ∧ M' = []) ?_ ?_
      · walk_at "alo"
        refine ac_abs ?_
        walk_at "alo"
        refine ⟨fun hb => ?_, fun hb => ?_⟩
        · walk_at "alo"
          refine ac_abs ?_
          walk_at "alo"
          exact rfl
        · exact as_next ⟨_, rfl, rfl⟩
      · rintro σ' M' ⟨great, rfl, rfl⟩
        walk_at "al"
        refine ae_lst ?_
        walk_at "al"
        refine ae_lstM ?_
        walk_at "al"
        obtain ⟨p, hp, ha⟩ := prime_at h0 h5 _ rfl
        refine ar_ixL ha (ar_i hp ?_)
        walk_at "al"
        exact Or.inl ⟨1, .m 0, Nat.zero_le _, .low (by decide), by simp [MO.below], q _ _⟩
end
end Wd
namespace Wd
open PySem PyProof.Rows L2 Al Gx
variable [Al.TabList]
theorem sc__law_unlike : FnScope ["_law_bag_here", "_law_many", "_law_count", "_law_left", "_law_found", "_law_turn"] ["_law_bag_here", "_law_many", "_law_count"] (defScope (top 27)) := ⟨rfl, rfl, rfl, by decide +kernel, rfl, by decide +kernel, by decide +kernel⟩
def aUnlike : ASp := fun xs M Φ _ => ∃ (g x c many count : Int), xs = [.m 0, .d (.int many), .d (.int count)] ∧ M = [bag g x c] ∧ 0 ≤ many ∧ many ≤ 1000 ∧ 0 ≤ count ∧ count ≤ 1000 ∧
  ∀ (l : List Int) (g' x' c' : Int), l.Nodup → (∀ k ∈ l, 0 ≤ k ∧ k < many) → (l.length : Int) = (if count < many then count else many) → Φ (.d (.lst (l.map D.int))) [bag g' x' c']
theorem mono_unlike : Mono aUnlike := fun xs M Φ Φ' Ψ Ψ' h1 _ ⟨g, x, c, n, m, e1, e2, a1, a2, a3, a4, p⟩ => ⟨g, x, c, n, m, e1, e2, a1, a2, a3, a4, fun l g' x' c' b1 b2 b3 => h1 _ _ (p l g' x' c' b1 b2 b3)⟩
theorem take_sent {M : List MO} {k : Nat} {g x c n : Int} {Φ : AV → List MO → Prop} {Ψ : Exc → List MO → Prop} (hk : M[k]? = some (bag g x c)) (h0 : 0 < n) (h1 : n < 1000000) (q : ∀ r g' x' c' : Int, 0 ≤ r → r < n → Φ (.d (.int r)) (M.set k (bag g' x' c'))) : Sent aTake [.m k, .d (.int n)] M Φ Ψ :=
  sent1 (xs' := [.m 0, .d (.int n)]) mono_take hk rfl rfl ⟨g, x, c, n, rfl, rfl, h0, h1, fun r g' x' c' h h' => ⟨_, _, rfl, rfl, q r g' x' c' h h'⟩⟩
theorem unlike_sent {M : List MO} {k : Nat} {g x c n m : Int} {Φ : AV → List MO → Prop} {Ψ : Exc → List MO → Prop} (hk : M[k]? = some (bag g x c)) (h0 : 0 ≤ n) (h1 : n ≤ 1000) (h2 : 0 ≤ m) (h3 : m ≤ 1000)
    (q : ∀ (l : List Int) (g' x' c' : Int), l.Nodup → (∀ k ∈ l, 0 ≤ k ∧ k < n) → (l.length : Int) = (if m < n then m else n) → Φ (.d (.lst (l.map D.int))) (M.set k (bag g' x' c'))) : Sent aUnlike [.m k, .d (.int n), .d (.int m)] M Φ Ψ :=
  sent1 (xs' := [.m 0, .d (.int n), .d (.int m)]) mono_unlike hk rfl rfl ⟨g, x, c, n, m, rfl, rfl, h0, h1, h2, h3, fun l g' x' c' a1 a2 a3 => ⟨_, _, rfl, rfl, q l g' x' c' a1 a2 a3⟩⟩
theorem perm_erase {α : Type} : ∀ (l : List α) (i : Nat) (y : α), l[i]? = some y → (y :: l.eraseIdx i).Perm l
  | [], i, y, h => by simp at h
  | a :: l, 0, y, h => by simp at h; subst h; exact .refl _
  | a :: l, i + 1, y, h => (List.Perm.swap a y _).trans ((perm_erase l i y (by simpa using h)).cons a)
theorem seqIndex_nat {r : Int} {n : Nat} (h0 : 0 ≤ r) (h : r < n) : seqIndex? r n = some r.toNat := by
  simp [seqIndex?, show ¬ r < 0 by omega, h0, h]
local macro_rules | `(tactic| walk_at "alside") => `(tactic| first
  | decide
  | (dsimp only; decide)
  | exact Or.inr (by decide)
  | exact Or.inl (by decide)
  | (dsimp only; omega)
  | (unfold CDiv; omega)
  | (unfold CPow; omega)
  | (unfold CMul; omega)
  | assumption)
local macro_rules | `(tactic| walk_at "al1") => `(tactic| first
  | with_reducible refine as_asg ?_
  | with_reducible refine as_drop ?_
  | with_reducible refine as_ret ?_
  | with_reducible refine as_if ?_
  | with_reducible refine as_next ?_
  | with_reducible refine at_test ?_
  | with_reducible refine at_b ?_
  | with_reducible refine at_and ?_
  | with_reducible refine at_or ?_
  | with_reducible refine at_not ?_
  | with_reducible refine ae_op ?_
  | with_reducible refine ae_un ?_
  | with_reducible refine ae_cb ?_
  | with_reducible refine ae_if ?_
  | with_reducible refine ae_andV ?_
  | with_reducible refine ae_orV ?_
  | with_reducible refine ae_notV ?_
  | with_reducible refine ae_chain ?_
  | with_reducible refine ae_int ?_
  | with_reducible refine ae_bl ?_
  | with_reducible refine ae_non ?_
  | with_reducible refine ae_str ?_
  | with_reducible refine ae_ty ?_
  | with_reducible refine ae_adr ?_
  | with_reducible refine aa_nil ?_
  | with_reducible refine aa_cons ?_
  | with_reducible refine ag_name ?_
  | with_reducible refine ag_sub ?_
  | with_reducible refine at_yes ?_
  | ((with_reducible show AE _ _ (tVar _) _ _ _); refine ae_var rfl ?_)
  | ((with_reducible show AR _ _ (uAdd _) _ _ _ _); refine ur_addI ?_)
  | ((with_reducible show AR _ _ (uMul _) _ _ _ _); refine ur_mulI (by walk_at "alside") ?_)
  | ((with_reducible show AR _ _ (uEq _) _ _ _ _); first | refine ur_eqI ?_ | refine ur_eqS ?_ | refine ur_eqB ?_)
  | ((with_reducible show AR _ _ (uNe _) _ _ _ _); first | refine ur_neI ?_ | refine ur_neS ?_ | refine ur_neB ?_)
  | ((with_reducible show AR _ _ (rIx _) _ _ _ _); first | refine ur_ixM rfl rfl ?_ | refine ur_ixL rfl ?_ | refine ur_ixT rfl ?_ | refine ur_ixS rfl ?_)
  | ((with_reducible show AC _ _ (uLen _) _ _ _); first | refine uc_len (.tup _) ?_ | refine uc_len (.lst _) ?_ | refine uc_len (.scr _) ?_ | refine uc_len (.mm rfl) ?_)
  | ((with_reducible show AR _ _ (rI0 _) _ _ _ _); first | with_reducible refine ar_i0 ?_ | with_reducible refine ar_b0 ?_)
  | ((with_reducible show AU _ _ (rU _) _ _ _); with_reducible refine au_i ?_)
  | ((with_reducible show AR _ _ (rI _ _) _ _ _ _); refine ar_i (by walk_at "alside") ?_)
  | ((with_reducible show AR _ _ (rIxL _) _ _ _ _); first | refine ar_ixM rfl rfl ?_ | refine ar_ixL rfl ?_ | refine ar_ixS rfl ?_)
  | ((with_reducible show AR _ _ (rIxT _) _ _ _ _); refine ar_ixT rfl ?_)
  | ((with_reducible show AR _ _ rEq _ _ _ _); first | with_reducible refine ar_eqI ?_ | with_reducible refine ar_eqS ?_ | with_reducible refine ar_eqB ?_)
  | ((with_reducible show AR _ _ rNe _ _ _ _); first | with_reducible refine ar_neI ?_ | with_reducible refine ar_neS ?_ | with_reducible refine ar_neB ?_))
local macro_rules | `(tactic| walk_at "alds") => `(tactic| first
  | refine ⟨[], rfl, Nat.le_of_ble_eq_true rfl, ?_⟩
  | refine ⟨[_], rfl, Nat.le_of_ble_eq_true rfl, ?_⟩
  | refine ⟨[_, _], rfl, Nat.le_of_ble_eq_true rfl, ?_⟩
  | refine ⟨[_, _, _], rfl, Nat.le_of_ble_eq_true rfl, ?_⟩
  | refine ⟨[_, _, _, _], rfl, Nat.le_of_ble_eq_true rfl, ?_⟩
  | refine ⟨[_, _, _, _, _], rfl, Nat.le_of_ble_eq_true rfl, ?_⟩
  | refine ⟨[_, _, _, _, _, _], rfl, Nat.le_of_ble_eq_true rfl, ?_⟩
  | refine ⟨[_, _, _, _, _, _, _], rfl, Nat.le_of_ble_eq_true rfl, ?_⟩
  | refine ⟨[_, _, _, _, _, _, _, _], rfl, Nat.le_of_ble_eq_true rfl, ?_⟩
  | refine ⟨[_, _, _, _, _, _, _, _, _], rfl, Nat.le_of_ble_eq_true rfl, ?_⟩
  | refine ⟨[_, _, _, _, _, _, _, _, _, _], rfl, Nat.le_of_ble_eq_true rfl, ?_⟩
  | refine ⟨[_, _, _, _, _, _, _, _, _, _, _], rfl, Nat.le_of_ble_eq_true rfl, ?_⟩
  | refine ⟨[_, _, _, _, _, _, _, _, _, _, _, _], rfl, Nat.le_of_ble_eq_true rfl, ?_⟩)
local macro_rules | `(tactic| walk_at "alc") => `(tactic| refine ae_call0 (Ψ := fun _ _ => False) (by walk_at "almono") efits_none ?_)
local macro_rules | `(tactic| walk_at "al") => `(tactic| repeat (first | walk_at "al1" | with_reducible refine as_seq ?_ | with_reducible refine ae_tup ?_ | with_reducible walk_at "alc" | refine ⟨_, rfl, ?_⟩ | walk_at "alds" | refine ⟨_, _, _, _, _, rfl, rfl, rfl, rfl, rfl, ?_⟩))
local macro_rules | `(tactic| walk_at "alF") => `(tactic| repeat (first | walk_at "al1" | with_reducible refine as_seq ?_ | with_reducible refine ae_tup ?_ | with_reducible refine ae_lst ?_ | with_reducible walk_at "alc" | refine ⟨_, rfl, ?_⟩ | walk_at "alds" | refine ⟨_, _, _, _, _, rfl, rfl, rfl, rfl, rfl, ?_⟩))
local macro_rules | `(tactic| walk_at "alo") => `(tactic| repeat (first | walk_at "al1" | with_reducible refine ae_tup ?_ | with_reducible walk_at "alc" | refine ⟨_, rfl, ?_⟩ | walk_at "alds" | refine ⟨_, _, _, _, _, rfl, rfl, rfl, rfl, rfl, ?_⟩))
local macro_rules | `(tactic| walk_at "almono") => `(tactic| first | exact mono_take | exact mono_unlike)
section
variable {P : Program} {w : World} {K : PySem.W.Frag} {mg : Str → Option Value} {base : Heap}
theorem ok_unlike (DD : DefAt K mg "_law_unlike" (top 27) ["_law_bag_here", "_law_many", "_law_count"]) (T : Bt mg) (G__law_take : FnAt P w K mg base CX0 1 "_law_take" ["_law_bag_here", "_law_many"] aTake) :
    FnAt P w K mg base CX0 2 "_law_unlike" ["_law_bag_here", "_law_many", "_law_count"] aUnlike := by
  refine fnat DD sc__law_unlike (fun xs M Φ Ψ h => ?_) (fun f cdv A outer s H E hr => ⟨_, (pss_cons (ps_par (i := 3) (j := 4) rfl sc__law_unlike.nd rfl rfl (by decide) rfl rfl (pa_cons (pe_listRg rfl rfl T.list (prg_1 rfl T.range (pv 1))) (pa_cons (pe_lst pa_nil) pa_nil)) rfl) (pss_cons (ps_for PassesOwn.never rfl (pi_range1 rfl T.range (pa_cons (pe_callB (call_min2 rfl) (by rfl) T.min (by decide +kernel) (pa_cons (pv 1) (pa_cons (pv 2) pa_nil))) pa_nil)) (pg_name (i := 5) sc__law_unlike.nd rfl (Or.inl rfl)) (pss_one (ps_expr (pe_bmK K PySem.F.plainAttrs_list PySem.F.slot_list_append PySem.F.type_list_append mt_append (pv 4) (pa_cons (pe_bmK K PySem.F.plainAttrs_list PySem.F.slot_list_pop PySem.F.type_list_pop mt_popAt (pv 3) (pa_cons (pe_fn G__law_take (hr.mono (by decide)) rfl pass0 (pa_cons (pv 0) (pa_cons (pe_callB (k_len K) (by rfl) T.len (by decide +kernel) (pa_cons (pv 3) pa_nil)) pa_nil))) pa_nil)) pa_nil))))) (pss_one (ps_ret (pv 4))))), fun B xs M Φ Ψ hB h => ?_⟩)
  · obtain ⟨g, x, c, n, m, rfl, _⟩ := h
    rfl
  · obtain ⟨g, x, c, n, m, rfl, rfl, h0, h1, h2, h3, p⟩ := h
    refine as_seq (as_par (aa_cons (ae_listRg1 (ae_var rfl ⟨n, rfl, h0, by omega, aa_cons (ae_lstM (aa_nil ⟨[], rfl, Nat.zero_le _, aa_nil ⟨_, _, rfl, ?_⟩⟩))⟩))))
    refine as_seq (as_for (n := 3) (fun i σ M => ∃ (g x c : Int) (left found : List Int) (a : Option AV), σ = [some (.m 0), some (.d (.int n)), some (.d (.int m)), some (.m 1), some (.m 2), a] ∧ M = [bag g x c, .lst (left.map D.int), .lst (found.map D.int)] ∧
        (left ++ found).Nodup ∧ (∀ k ∈ left ++ found, 0 ≤ k ∧ k < n) ∧ left.length + found.length = n.toNat ∧ found.length = i)
      (fun i σ M ⟨_, _, _, _, _, _, _, e, _⟩ => by rw [e]; rfl) (ai_rng1 (aa_cons (ae_cb (aa_cons (ae_var rfl (aa_cons (ae_var rfl (aa_nil (ac_min (aa_nil ⟨_, rfl, ?_, ?_, ⟨g, x, c, (List.range n.toNat).map (fun (i : Nat) => (i : Int)), [], none, rfl, ?_, ?_, ?_, ?_, rfl⟩, fun i d σ' M' hd hi => ?_, fun σ' M' hi => ?_⟩)))))))))))
    · split <;> omega
    · split <;> omega
    · unfold rngD
      rw [List.map_map]
      simp
    · rw [List.append_nil]
      refine List.pairwise_map.mpr (List.Pairwise.imp (fun {a b} h e => h (by omega)) (List.nodup_range (n := n.toNat)))
    · intro k hk
      rw [List.append_nil] at hk
      obtain ⟨j, hj, rfl⟩ := List.mem_map.mp hk
      have := List.mem_range.mp hj
      omega
    · simp
    · obtain ⟨g, x, c, left, found, a, rfl, rfl, nd, rg, hl, hf⟩ := hi
      obtain ⟨hlt, rfl⟩ := rngD_get hd
      have hleft : 0 < left.length := by
        by_cases e : m < n
        · rw [if_pos e] at hlt; omega
        · rw [if_neg e] at hlt; omega
      refine ag_name (as_drop (ae_append (ae_var rfl ⟨2, _, rfl, rfl, aa_cons (ae_popAt (ae_var rfl ⟨1, _, rfl, rfl, aa_cons ?_⟩))⟩)))
      walk_at "al"
      rw [List.length_map]
      refine take_sent rfl (by omega) (by omega) fun r g' x' c' r0 r1 => ?_
      have hr : r.toNat < left.length := by omega
      have hy : left[r.toNat]? = some left[r.toNat] := List.getElem?_eq_getElem hr
      have hp := perm_erase left r.toNat _ hy
      have hperm : (left.eraseIdx r.toNat ++ (found ++ [left[r.toNat]])).Perm (left ++ found) := by
        rw [← List.append_assoc]
        refine List.perm_append_singleton _ _ |>.trans ?_
        rw [← List.cons_append]
        exact hp.append_right found
      refine aa_nil ⟨r, r.toNat, left.map D.int, .int left[r.toNat], rfl, rfl, by omega, by omega, seqIndex_nat r0 (by rw [List.length_map]; exact r1), by rw [List.getElem?_map, hy]; rfl, ?_⟩
      refine aa_nil ⟨.int left[r.toNat], found.map D.int, rfl, rfl, by rw [List.length_map, sizeLine_eq]; omega, ?_⟩
      refine ⟨by simp [MO.below, bag], g', x', c', left.eraseIdx r.toNat, found ++ [left[r.toNat]], _, rfl, ?_, hperm.nodup_iff.mpr nd, fun k hk => rg k (hperm.mem_iff.mp hk), ?_, by rw [List.length_append, hf]; rfl⟩
      · rw [List.map_append]
        show [_, _, _] = _
        rw [show (left.map D.int).eraseIdx r.toNat = (left.eraseIdx r.toNat).map D.int from by rw [List.eraseIdx_eq_take_drop_succ, List.eraseIdx_eq_take_drop_succ, List.map_append, List.map_take, List.map_drop]]
        rfl
      · rw [List.length_append, List.length_singleton, List.length_eraseIdx_of_lt hr]
        omega
    · obtain ⟨g, x, c, left, found, a, rfl, rfl, nd, rg, hl, hf⟩ := hi
      rw [rngD_len] at hf
      refine as_ret (ae_var rfl ?_)
      refine Or.inl ⟨1, .d (.lst (found.map D.int)), Nat.le_refl _, .lst (by decide) rfl, by simp [MO.below, bag], p found _ _ _ (List.nodup_append.mp nd).2.1 (fun k hk => rg k (List.mem_append_right _ hk)) ?_⟩
      rw [hf]
      split <;> omega
end
end Wd
namespace Wd
open PySem PyProof.Rows L2 Al Gx
variable [Al.TabList]
/-- a drawn room -/
structure Rm where
  ears : List Int
  size : Int
  first : Int
  table : List Int
def Rm.t (x : Rm) : D := .tup [.tup (x.ears.map D.int), .int x.size, .int x.first, .tup (x.table.map D.int)]
theorem all_flat (l : List Int) : (l.map D.int).all flatD = true := by simp [flatD]
def Rm.rd (x : Rm) : Rd := ⟨.tup (x.ears.map D.int), .int x.size, .int x.first, .tup (x.table.map D.int)⟩
theorem Rm.fine (x : Rm) : x.rd.Fine := ⟨all_flat _, rfl, rfl, .inl (all_flat _)⟩
theorem toI_map (l : List Int) : (l.map D.int).map toI = l := by rw [List.map_map]; simp [Function.comp_def, toI]
theorem fine_ok (rms : List Rm) : ∀ x ∈ rms.map Rm.rd, x.Fine := fun x hx => by
  obtain ⟨y, hy, rfl⟩ := List.mem_map.mp hx
  exact y.fine
end Wd
namespace Wd
open PySem PyProof.Rows L2 Al Gx
variable [Al.TabList]
theorem sc__law_rooms : FnScope ["_law_bag_here", "_law_most", "_law_widest", "_law_many", "_law_alike", "_law_sizes", "_law_k", "_law_rooms_here", "_law_ears", "_law_rows", "_law_heard", "_law_table", "_law_j"] ["_law_bag_here", "_law_most", "_law_widest"] (defScope (top 28)) := ⟨rfl, rfl, rfl, by decide +kernel, rfl, by decide +kernel, by decide +kernel⟩
def prodI (sizes : List Int) : List Int → Int → Int
  | [], a => a
  | e :: es, a => prodI sizes es (a * sizes.getD e.toNat 0)
/-- a room among n of these sizes -/
structure Rm.Ok (n : Nat) (sizes : List Int) (widest : Int) (x : Rm) : Prop where
  nd : x.ears.Nodup
  few : x.ears.length ≤ 3
  rg : ∀ e ∈ x.ears, 0 ≤ e ∧ e < n
  s1 : 1 ≤ x.size
  sw : x.size ≤ widest
  f0 : 0 ≤ x.first
  f1 : x.first < x.size
  tr : ∀ t ∈ x.table, 0 ≤ t ∧ t < x.size
  tl : (x.table.length : Int) = prodI sizes x.ears 1
structure Rms (rms : List Rm) (most widest : Int) : Prop where
  n1 : 1 ≤ rms.length
  nm : (rms.length : Int) ≤ most
  ok : ∀ x ∈ rms, x.Ok rms.length (rms.map Rm.size) widest
def aRms : ASp := fun xs M Φ _ => ∃ (g x c most widest : Int), xs = [.m 0, .d (.int most), .d (.int widest)] ∧ M = [bag g x c] ∧ 1 ≤ most ∧ most ≤ 900 ∧ 1 ≤ widest ∧ widest ≤ 100 ∧
  ∀ (rms : List Rm) (g' x' c' : Int), Rms rms most widest → Φ (.d (.lst (rms.map Rm.t))) [bag g' x' c']
theorem mono_rms : Mono aRms := fun xs M Φ Φ' Ψ Ψ' h1 _ ⟨g, x, c, n, m, e1, e2, a1, a2, a3, a4, p⟩ => ⟨g, x, c, n, m, e1, e2, a1, a2, a3, a4, fun l g' x' c' b1 => h1 _ _ (p l g' x' c' b1)⟩
theorem six_at {r : Int} (h0 : 0 ≤ r) (h : r < 6) (l : List D) (hl : l = [.int 1, .int 2, .int 3, .int 2, .int 1, .int 0]) : ∃ v, 0 ≤ v ∧ v ≤ 3 ∧ atI l r = some (.int v) := by
  subst hl
  obtain rfl | rfl | rfl | rfl | rfl | rfl : r = 0 ∨ r = 1 ∨ r = 2 ∨ r = 3 ∨ r = 4 ∨ r = 5 := by omega
  all_goals exact ⟨_, by decide, by decide, rfl⟩
theorem int_at {l : List Int} {k : Int} (h0 : 0 ≤ k) (h : k < l.length) : atI (l.map D.int) k = some (.int (l.getD k.toNat 0)) := by
  have hk : k.toNat < l.length := by omega
  have e : ((k.toNat : Nat) : Int) = k := by omega
  have := atI_natD (l := l.map D.int) (i := k.toNat) (d := .int (l.getD k.toNat 0)) (by rw [List.getElem?_map, List.getD, List.getElem?_eq_getElem hk]; rfl)
  rwa [e] at this
theorem getD_mem {l : List Int} {k : Int} (h0 : 0 ≤ k) (h : k < l.length) : l.getD k.toNat 0 ∈ l := by
  have hk : k.toNat < l.length := by omega
  rw [List.getD, List.getElem?_eq_getElem hk]
  exact List.getElem_mem hk
local macro_rules | `(tactic| walk_at "alside") => `(tactic| first
  | decide
  | (dsimp only; decide)
  | exact Or.inr (by decide)
  | exact Or.inl (by decide)
  | (dsimp only; omega)
  | (unfold CDiv; omega)
  | (unfold CPow; omega)
  | (unfold CMul; omega)
  | assumption)
local macro_rules | `(tactic| walk_at "al1") => `(tactic| first
  | with_reducible refine as_asg ?_
  | with_reducible refine as_drop ?_
  | with_reducible refine as_ret ?_
  | with_reducible refine as_if ?_
  | with_reducible refine as_next ?_
  | with_reducible refine at_test ?_
  | with_reducible refine at_b ?_
  | with_reducible refine at_and ?_
  | with_reducible refine at_or ?_
  | with_reducible refine at_not ?_
  | with_reducible refine ae_op ?_
  | with_reducible refine ae_un ?_
  | with_reducible refine ae_cb ?_
  | with_reducible refine ae_if ?_
  | with_reducible refine ae_andV ?_
  | with_reducible refine ae_orV ?_
  | with_reducible refine ae_notV ?_
  | with_reducible refine ae_chain ?_
  | with_reducible refine ae_int ?_
  | with_reducible refine ae_bl ?_
  | with_reducible refine ae_non ?_
  | with_reducible refine ae_str ?_
  | with_reducible refine ae_ty ?_
  | with_reducible refine ae_adr ?_
  | with_reducible refine aa_nil ?_
  | with_reducible refine aa_cons ?_
  | with_reducible refine ag_name ?_
  | with_reducible refine ag_sub ?_
  | with_reducible refine at_yes ?_
  | ((with_reducible show AE _ _ (tVar _) _ _ _); refine ae_var rfl ?_)
  | ((with_reducible show AR _ _ (uAdd _) _ _ _ _); refine ur_addI ?_)
  | ((with_reducible show AR _ _ (uMul _) _ _ _ _); refine ur_mulI (by walk_at "alside") ?_)
  | ((with_reducible show AR _ _ (uEq _) _ _ _ _); first | refine ur_eqI ?_ | refine ur_eqS ?_ | refine ur_eqB ?_)
  | ((with_reducible show AR _ _ (uNe _) _ _ _ _); first | refine ur_neI ?_ | refine ur_neS ?_ | refine ur_neB ?_)
  | ((with_reducible show AR _ _ (rIx _) _ _ _ _); first | refine ur_ixM rfl rfl ?_ | refine ur_ixL rfl ?_ | refine ur_ixT rfl ?_ | refine ur_ixS rfl ?_)
  | ((with_reducible show AC _ _ (uLen _) _ _ _); first | refine uc_len (.tup _) ?_ | refine uc_len (.lst _) ?_ | refine uc_len (.scr _) ?_ | refine uc_len (.mm rfl) ?_)
  | ((with_reducible show AR _ _ (rI0 _) _ _ _ _); first | with_reducible refine ar_i0 ?_ | with_reducible refine ar_b0 ?_)
  | ((with_reducible show AU _ _ (rU _) _ _ _); with_reducible refine au_i ?_)
  | ((with_reducible show AR _ _ (rI _ _) _ _ _ _); refine ar_i (by walk_at "alside") ?_)
  | ((with_reducible show AR _ _ (rIxL _) _ _ _ _); first | refine ar_ixM rfl rfl ?_ | refine ar_ixL rfl ?_ | refine ar_ixS rfl ?_)
  | ((with_reducible show AR _ _ (rIxT _) _ _ _ _); refine ar_ixT rfl ?_)
  | ((with_reducible show AR _ _ rEq _ _ _ _); first | with_reducible refine ar_eqI ?_ | with_reducible refine ar_eqS ?_ | with_reducible refine ar_eqB ?_)
  | ((with_reducible show AR _ _ rNe _ _ _ _); first | with_reducible refine ar_neI ?_ | with_reducible refine ar_neS ?_ | with_reducible refine ar_neB ?_))
local macro_rules | `(tactic| walk_at "alds") => `(tactic| first
  | refine ⟨[], rfl, Nat.le_of_ble_eq_true rfl, ?_⟩
  | refine ⟨[_], rfl, Nat.le_of_ble_eq_true rfl, ?_⟩
  | refine ⟨[_, _], rfl, Nat.le_of_ble_eq_true rfl, ?_⟩
  | refine ⟨[_, _, _], rfl, Nat.le_of_ble_eq_true rfl, ?_⟩
  | refine ⟨[_, _, _, _], rfl, Nat.le_of_ble_eq_true rfl, ?_⟩
  | refine ⟨[_, _, _, _, _], rfl, Nat.le_of_ble_eq_true rfl, ?_⟩
  | refine ⟨[_, _, _, _, _, _], rfl, Nat.le_of_ble_eq_true rfl, ?_⟩
  | refine ⟨[_, _, _, _, _, _, _], rfl, Nat.le_of_ble_eq_true rfl, ?_⟩
  | refine ⟨[_, _, _, _, _, _, _, _], rfl, Nat.le_of_ble_eq_true rfl, ?_⟩
  | refine ⟨[_, _, _, _, _, _, _, _, _], rfl, Nat.le_of_ble_eq_true rfl, ?_⟩
  | refine ⟨[_, _, _, _, _, _, _, _, _, _], rfl, Nat.le_of_ble_eq_true rfl, ?_⟩
  | refine ⟨[_, _, _, _, _, _, _, _, _, _, _], rfl, Nat.le_of_ble_eq_true rfl, ?_⟩
  | refine ⟨[_, _, _, _, _, _, _, _, _, _, _, _], rfl, Nat.le_of_ble_eq_true rfl, ?_⟩)
local macro_rules | `(tactic| walk_at "alc") => `(tactic| refine ae_call0 (Ψ := fun _ _ => False) (by walk_at "almono") efits_none ?_)
local macro_rules | `(tactic| walk_at "al") => `(tactic| repeat (first | walk_at "al1" | with_reducible refine as_seq ?_ | with_reducible refine ae_tup ?_ | with_reducible walk_at "alc" | refine ⟨_, rfl, ?_⟩ | walk_at "alds" | refine ⟨_, _, _, _, _, rfl, rfl, rfl, rfl, rfl, ?_⟩))
local macro_rules | `(tactic| walk_at "alF") => `(tactic| repeat (first | walk_at "al1" | with_reducible refine as_seq ?_ | with_reducible refine ae_tup ?_ | with_reducible refine ae_lst ?_ | with_reducible walk_at "alc" | refine ⟨_, rfl, ?_⟩ | walk_at "alds" | refine ⟨_, _, _, _, _, rfl, rfl, rfl, rfl, rfl, ?_⟩))
local macro_rules | `(tactic| walk_at "alo") => `(tactic| repeat (first | walk_at "al1" | with_reducible refine ae_tup ?_ | with_reducible walk_at "alc" | refine ⟨_, rfl, ?_⟩ | walk_at "alds" | refine ⟨_, _, _, _, _, rfl, rfl, rfl, rfl, rfl, ?_⟩))
local macro_rules | `(tactic| walk_at "almono") => `(tactic| first | exact mono_take | exact mono_unlike | exact mono_rms)
section
variable {P : Program} {w : World} {K : PySem.W.Frag} {mg : Str → Option Value} {base : Heap}
theorem ok_rms (DD : DefAt K mg "_law_rooms" (top 28) ["_law_bag_here", "_law_most", "_law_widest"]) (T : Bt mg) (G__law_take : FnAt P w K mg base CX0 1 "_law_take" ["_law_bag_here", "_law_many"] aTake)
    (G__law_unlike : FnAt P w K mg base CX0 2 "_law_unlike" ["_law_bag_here", "_law_many", "_law_count"] aUnlike) :
    FnAt P w K mg base CX0 3 "_law_rooms" ["_law_bag_here", "_law_most", "_law_widest"] aRms := by
  refine fnat DD sc__law_rooms (fun xs M Φ Ψ h => ?_) (fun f cdv A outer s H E hr => ⟨_, (pss_cons (ps_set (i := 3) sc__law_rooms.nd rfl (Or.inl rfl) (pe_op (k_add K) pe_int (pe_fn G__law_take (hr.mono (by decide)) rfl pass0 (pa_cons (pv 0) (pa_cons (pv 1) pa_nil))))) (pss_cons (ps_set (i := 4) sc__law_rooms.nd rfl (Or.inl rfl) (pe_cmpR (k_eq K hr.units) (pe_fn G__law_take (hr.mono (by decide)) rfl pass0 (pa_cons (pv 0) (pa_cons pe_int pa_nil))) pe_int (nomark _))) (pss_cons (ps_set (i := 5) sc__law_rooms.nd rfl (Or.inr rfl) (pe_lc (own := [("_law_k", 6)]) rfl sc__law_rooms.nd (pi_range1 rfl T.range (pa_cons (pv 3) pa_nil)) (blkOk_by (own := [("_law_k", 6)]) (N := ["_law_bag_here", "_law_most", "_law_widest", "_law_many", "_law_alike", "_law_sizes", "_law_k", "_law_rooms_here", "_law_ears", "_law_rows", "_law_heard", "_law_table", "_law_j"]) (sc := defScope (top 28)) (by decide +kernel)) (fun _ _ _ _ _ => by exact (pg_name (i := 6) sc__law_rooms.nd rfl (Or.inl rfl))) (fun _ _ _ _ _ => by exact pts_nil) (fun _ _ _ _ _ => by exact (pe_op (k_add K) pe_int (pe_fn G__law_take (hr.mono (by decide)) rfl pass0 (pa_cons (pv 0) (pa_cons (pv 2) pa_nil))))))) (pss_cons (ps_if (pt_val (pv 4)) (pss_one (ps_set (i := 5) sc__law_rooms.nd rfl (Or.inr rfl) (pe_op (k_mul K) (pe_lst (pa_cons (pe_ix (k_ix K) (pv 5) pe_int (fun _ _ => rfl)) pa_nil)) (pv 3)))) pss_nil) (pss_cons (ps_set (i := 7) sc__law_rooms.nd rfl (Or.inl rfl) (pe_lst pa_nil)) (pss_cons (ps_for PassesOwn.never rfl (pi_range1 rfl T.range (pa_cons (pv 3) pa_nil)) (pg_name (i := 6) sc__law_rooms.nd rfl (Or.inr rfl)) (pss_cons (ps_set (i := 8) sc__law_rooms.nd rfl (Or.inl rfl) (pe_callTy (k_tupOf K) (by rfl) T.tuple (by decide +kernel) (pa_cons (pe_fn G__law_unlike (hr.mono (by decide)) rfl pass0 (pa_cons (pv 0) (pa_cons (pv 3) (pa_cons (pe_ix (k_ix K) (pe_lst (pa_cons pe_int (pa_cons pe_int (pa_cons pe_int (pa_cons pe_int (pa_cons pe_int (pa_cons pe_int pa_nil))))))) (pe_fn G__law_take (hr.mono (by decide)) rfl pass0 (pa_cons (pv 0) (pa_cons pe_int pa_nil))) (fun _ _ => rfl)) pa_nil)))) pa_nil))) (pss_cons (ps_set (i := 9) sc__law_rooms.nd rfl (Or.inl rfl) pe_int) (pss_cons (ps_for PassesOwn.never rfl (pi_seqK K (pv 8)) (pg_name (i := 10) sc__law_rooms.nd rfl (Or.inl rfl)) (pss_one (ps_set (i := 9) sc__law_rooms.nd rfl (Or.inl rfl) (pe_op (k_mul K) (pv 9) (pe_ix (k_ix K) (pv 5) (pv 10) (fun _ _ => rfl)))))) (pss_cons (ps_set (i := 11) sc__law_rooms.nd rfl (Or.inl rfl) (pe_callTy (k_tupOf K) (by rfl) T.tuple (by decide +kernel) (pa_cons (pe_lc (own := [("_law_j", 12)]) rfl sc__law_rooms.nd (pi_range1 rfl T.range (pa_cons (pv 9) pa_nil)) (blkOk_by (own := [("_law_j", 12)]) (N := ["_law_bag_here", "_law_most", "_law_widest", "_law_many", "_law_alike", "_law_sizes", "_law_k", "_law_rooms_here", "_law_ears", "_law_rows", "_law_heard", "_law_table", "_law_j"]) (sc := defScope (top 28)) (by decide +kernel)) (fun _ _ _ _ _ => by exact (pg_name (i := 12) sc__law_rooms.nd rfl (Or.inl rfl))) (fun _ _ _ _ _ => by exact pts_nil) (fun _ _ _ _ _ => by exact (pe_fn G__law_take (hr.mono (by decide)) rfl pass0 (pa_cons (pv 0) (pa_cons (pe_ix (k_ix K) (pv 5) (pv 6) (fun _ _ => rfl)) pa_nil))))) pa_nil))) (pss_one (ps_expr (pe_bmK K PySem.F.plainAttrs_list PySem.F.slot_list_append PySem.F.type_list_append mt_append (pv 7) (pa_cons (pe_tup (pa_cons (pv 8) (pa_cons (pe_ix (k_ix K) (pv 5) (pv 6) (fun _ _ => rfl)) (pa_cons (pe_fn G__law_take (hr.mono (by decide)) rfl pass0 (pa_cons (pv 0) (pa_cons (pe_ix (k_ix K) (pv 5) (pv 6) (fun _ _ => rfl)) pa_nil))) (pa_cons (pv 11) pa_nil))))) pa_nil))))))))) (pss_one (ps_ret (pv 7))))))))), fun B xs M Φ Ψ hB h => ?_⟩)
  · obtain ⟨g, x, c, n, m, rfl, _⟩ := h
    rfl
  · obtain ⟨g, x, c, most, widest, rfl, rfl, m1, m2, w1, w2, p⟩ := h
    refine as_seq ?_
    walk_at "alo"
    refine take_sent rfl (by omega) (by omega) fun r1 g1 x1 c1 r10 r11 => ?_
    walk_at "alo"
    refine as_seq ?_
    walk_at "alo"
    refine take_sent rfl (by decide) (by decide) fun r2 g2 x2 c2 r20 r21 => ?_
    walk_at "alo"
    generalize hn : (1 + r1) = n
    have hn1 : 1 ≤ n := by omega
    have hnm : n ≤ most := by omega
    generalize decide (r2 = 0) = alike
    -- the sizes
    refine as_seq (as_asgN (ae_lc (n := 1) (fun i acc M' => ∃ (g x c : Int) (l : List Int), M' = [bag g x c] ∧ acc = l.map D.int ∧ l.length = i ∧ ∀ v ∈ l, 1 ≤ v ∧ v ≤ widest) (fun i acc M' ⟨g, x, c, l, e, _⟩ => by rw [e]; exact ⟨rfl, rfl⟩) (gk_name rfl)
      (ai_rng1 (aa_cons (ae_var rfl (aa_nil ⟨n, rfl, by omega, by omega, ⟨g2, x2, c2, [], rfl, rfl, rfl, by simp⟩, fun i d acc M' hd hi => ?_, fun acc M' hi => ?_⟩))))))
    · obtain ⟨g, x, c, l, rfl, rfl, hl, hv⟩ := hi
      obtain ⟨hlt, rfl⟩ := rngD_get hd
      refine ag_name (at_yes ⟨fun _ => ?_, (fun z => nomatch z)⟩)
      walk_at "alo"
      refine take_sent rfl (by omega) (by omega) fun r g' x' c' r0 r1 => ?_
      walk_at "alo"
      exact ⟨_, [bag g' x' c'], rfl, rfl, by rw [List.length_map, sizeLine_eq]; omega, g', x', c', l ++ [1 + r], rfl, by rw [List.map_append]; rfl, by rw [List.length_append, hl]; rfl, fun v hvm => by
        rcases List.mem_append.mp hvm with h | h
        · exact hv v h
        · rw [List.mem_singleton.mp h]; omega⟩
    obtain ⟨g3, x3, c3, l0, rfl, rfl, hl0, hv0⟩ := hi
    rw [rngD_len] at hl0
    refine as_cut (fun σ M => ∃ (l : List Int), σ = [some (.m 0), some (.d (.int most)), some (.d (.int widest)), some (.d (.int n)), some (.d (.bl alike)), some (.d (.lst (l.map D.int))), none, none, none, none, none, none, none] ∧ M = [bag g3 x3 c3] ∧ l.length = n.toNat ∧ ∀ v ∈ l, 1 ≤ v ∧ v ≤ widest) ?_ ?_
    · walk_at "alo"
      refine iteB (fun _ => ?_) fun _ => as_next ⟨l0, rfl, rfl, hl0, hv0⟩
      refine as_asgN (ae_op (ae_lst (aa_cons (ae_op (ae_var rfl (ae_int (ur_ixL (int_at (Int.le_refl 0) (by omega)) (aa_nil ⟨[_], rfl, Nat.le_of_ble_eq_true rfl, ae_var rfl (ur_mulL (.lst _) (by omega) (by omega) (by rw [List.length_singleton, sizeLine_eq]; omega) ?_)⟩))))))))
      refine ⟨List.replicate n.toNat (l0.getD 0 0), ?_, rfl, by simp, fun v hv => ?_⟩
      · rw [List.map_replicate, show (List.replicate n.toNat [D.int (l0.getD (0 : Int).toNat 0)]).flatten = List.replicate n.toNat (D.int (l0.getD 0 0)) from by rw [List.flatten_replicate_singleton]; rfl]
        rfl
      · rw [List.eq_of_mem_replicate hv]
        exact hv0 _ (getD_mem (k := 0) (Int.le_refl 0) (by omega))
    rintro σ' M' ⟨sizes, rfl, rfl, hls, hvs⟩
    have hlen : (sizes.length : Int) = n := by omega
    refine as_seq (as_asgN (ae_lstM (aa_nil ⟨[], rfl, Nat.zero_le _, ?_⟩)))
    refine as_seq (as_for (n := 2) (fun i σ M => ∃ (g x c : Int) (rms : List Rm) (a1 a2 a3 a4 a5 a6 : Option AV), σ = [some (.m 0), some (.d (.int most)), some (.d (.int widest)), some (.d (.int n)), some (.d (.bl alike)), some (.d (.lst (sizes.map D.int))), a1, some (.m 1), a2, a3, a4, a5, a6] ∧
        M = [bag g x c, .lst (rms.map Rm.t)] ∧ rms.length = i ∧ rms.map Rm.size = sizes.take i ∧ ∀ y ∈ rms, y.Ok n.toNat sizes widest)
      (fun i σ M ⟨_, _, _, _, _, _, _, _, _, _, _, e, _⟩ => by rw [e]; rfl) (ai_rng1 (aa_cons (ae_var rfl (aa_nil ⟨n, rfl, by omega, by omega, ⟨g3, x3, c3, [], none, none, none, none, none, none, rfl, rfl, rfl, by simp, by simp⟩, fun i d σ' M' hd hi => ?_, fun σ' M' hi => ?_⟩)))))
    · obtain ⟨g, x, c, rms, a1, a2, a3, a4, a5, a6, rfl, rfl, hrl, hrs, hro⟩ := hi
      obtain ⟨hlt, rfl⟩ := rngD_get hd
      rw [Int.zero_add]
      refine ag_name ?_
      refine as_seq ?_
      walk_at "alo"
      refine ae_lst ?_
      walk_at "alo"
      refine take_sent rfl (by decide) (by decide) fun r3 g4 x4 c4 r30 r31 => ?_
      obtain ⟨v, v0, v3, hv⟩ := six_at r30 r31 _ rfl
      refine ur_ixL hv ?_
      walk_at "alo"
      refine unlike_sent rfl (by omega) (by omega) v0 (by omega) fun el g5 x5 c5 nd rg hel => ?_
      have hel3 : el.length ≤ 3 := by
        by_cases e : v < n
        · rw [if_pos e] at hel; omega
        · rw [if_neg e] at hel; omega
      have hin : i < sizes.length := by omega
      have hsi : atI (sizes.map D.int) (i : Int) = some (.int (sizes.getD i 0)) := int_at (k := (i : Int)) (by omega) (by omega)
      have hsm := hvs _ (getD_mem (l := sizes) (k := (i : Int)) (by omega) (by omega))
      rw [Int.toNat_natCast] at hsm
      walk_at "alo"
      refine uc_tuple (.lst _) ?_
      walk_at "alo"
      refine as_seq (as_asgN (ae_int ?_))
      refine as_seq (as_for (n := 2) (fun j σ M => ∃ (acc : Int) (b q5 q6 : Option AV), σ = [some (.m 0), some (.d (.int most)), some (.d (.int widest)), some (.d (.int n)), some (.d (.bl alike)), some (.d (.lst (sizes.map D.int))), some (.d (.int i)), some (.m 1), some (.d (.tup (el.map D.int))), some (.d (.int acc)), b, q5, q6] ∧
          M = [bag g5 x5 c5, .lst (rms.map Rm.t)] ∧ prodI sizes el 1 = prodI sizes (el.drop j) acc ∧ 0 ≤ acc ∧ acc ≤ 100 ^ j)
        (fun j σ M ⟨_, _, _, _, _, e, _⟩ => by rw [e]; rfl) (ai_seqT (ae_var rfl ⟨_, rfl, ⟨1, _, _, _, rfl, rfl, by rw [List.drop_zero], by decide, by decide⟩, fun j d σ' M' hd hi => ?_, fun σ' M' hi => ?_⟩)))
      · obtain ⟨acc, b, q5, q6, rfl, rfl, hpr, h0, h100⟩ := hi
        rw [List.getElem?_map] at hd
        obtain ⟨e, he, rfl⟩ := Option.map_eq_some_iff.mp hd
        have hj := (List.getElem?_eq_some_iff.mp he).1
        have hdr : el.drop j = e :: el.drop (j + 1) := by
          rw [List.drop_eq_getElem_cons hj]
          rw [List.getElem?_eq_getElem hj] at he
          cases he; rfl
        have hre := rg e (List.mem_of_getElem? he)
        have hse := hvs _ (getD_mem (l := sizes) (k := e) hre.1 (by omega))
        have hacc : acc ≤ 1000000 := by
          have : j = 0 ∨ j = 1 ∨ j = 2 := by omega
          rcases this with rfl | rfl | rfl
          · exact Int.le_trans h100 (by decide)
          · exact Int.le_trans h100 (by decide)
          · exact Int.le_trans h100 (by decide)
        refine ag_name (as_asgN (ae_op (ae_var rfl (ae_op (ae_var rfl (ae_var rfl (ur_ixL (int_at hre.1 (by omega)) (ur_mulI (.inl ⟨by omega, by omega⟩) ?_))))))))
        refine ⟨by simp [MO.below, bag], acc * sizes.getD e.toNat 0, some (.d (.int e)), _, _, rfl, rfl, ?_, Int.mul_nonneg h0 (by omega), ?_⟩
        · rw [hpr, hdr]; rfl
        · rw [Int.pow_succ]
          exact Int.mul_le_mul h100 (by omega) (by omega) (Int.le_of_lt (Int.pow_pos (by decide)))
      · obtain ⟨acc, b, q5, q6, rfl, rfl, hpr, h0, h100⟩ := hi
        rw [List.length_map] at hpr h100
        rw [List.drop_length] at hpr
        have hpr : prodI sizes el 1 = acc := hpr
        have hacc : acc ≤ 1000000 := by
          have : el.length = 0 ∨ el.length = 1 ∨ el.length = 2 ∨ el.length = 3 := by omega
          rcases this with h | h | h | h <;> rw [h] at h100
          · exact Int.le_trans h100 (by decide)
          · exact Int.le_trans h100 (by decide)
          · exact Int.le_trans h100 (by decide)
          · exact Int.le_trans h100 (by decide)
        refine as_seq (as_asgN (ae_cb (aa_cons (ae_lc (n := 2) (fun j acc M' => ∃ (g x c : Int) (l : List Int), M' = [bag g x c, .lst (rms.map Rm.t)] ∧ acc = l.map D.int ∧ l.length = j ∧ ∀ t ∈ l, 0 ≤ t ∧ t < sizes.getD i 0) (fun j acc M' ⟨g, x, c, l, e, _⟩ => by rw [e]; exact ⟨rfl, rfl⟩) (gk_name rfl)
          (ai_rng1 (aa_cons (ae_var rfl (aa_nil ⟨acc, rfl, by omega, by omega, ⟨g5, x5, c5, [], rfl, rfl, rfl, by simp⟩, fun j d acc' M' hd hi => ?_, fun acc' M' hi => ?_⟩))))))))
        · obtain ⟨g, x, c, l, rfl, rfl, hl, hv2⟩ := hi
          obtain ⟨hlt2, rfl⟩ := rngD_get hd
          refine ag_name (at_yes ⟨fun _ => ?_, (fun z => nomatch z)⟩)
          walk_at "alo"
          refine ur_ixL hsi ?_
          walk_at "alo"
          refine take_sent rfl (by omega) (by omega) fun r g' x' c' r0 r1 => ?_
          exact ⟨_, [bag g' x' c', .lst (rms.map Rm.t)], rfl, rfl, by rw [List.length_map, sizeLine_eq]; omega, g', x', c', l ++ [r], rfl, by rw [List.map_append]; rfl, by rw [List.length_append, hl]; rfl, fun t ht => by
            rcases List.mem_append.mp ht with h | h
            · exact hv2 t h
            · rw [List.mem_singleton.mp h]; omega⟩
        obtain ⟨g6, x6, c6, tab, rfl, rfl, htl, htr⟩ := hi
        rw [rngD_len] at htl
        refine aa_nil (uc_tuple (.lst _) ?_)
        refine as_drop (ae_append (ae_var rfl ⟨1, _, rfl, rfl, aa_cons (ae_tup (aa_cons (ae_var rfl (aa_cons (ae_op (ae_var rfl (ae_var rfl (ur_ixL hsi (aa_cons ?_)))))))))⟩))
        walk_at "alo"
        refine ur_ixL hsi ?_
        walk_at "alo"
        refine take_sent rfl (by omega) (by omega) fun r7 g7 x7 c7 r70 r71 => ?_
        walk_at "alo"
        refine ⟨Rm.t ⟨el, sizes.getD i 0, r7, tab⟩, rms.map Rm.t, rfl, rfl, by rw [List.length_map, sizeLine_eq]; omega, ?_⟩
        refine ⟨by simp [MO.below, bag], g7, x7, c7, rms ++ [⟨el, sizes.getD i 0, r7, tab⟩], _, _, _, _, _, _, rfl, by rw [List.map_append]; rfl, by rw [List.length_append, hrl]; rfl, ?_, fun y hy => ?_⟩
        · rw [List.map_append, hrs, List.take_add_one, List.getElem?_eq_getElem hin]
          show _ ++ [sizes.getD i 0] = _
          rw [List.getD, List.getElem?_eq_getElem hin]
          rfl
        · rcases List.mem_append.mp hy with h | h
          · exact hro y h
          · rw [List.mem_singleton.mp h]
            exact ⟨nd, hel3, fun e he => by have := rg e he; omega, hsm.1, hsm.2, r70, r71, htr, by rw [hpr]; show (tab.length : Int) = acc; omega⟩
    · obtain ⟨g, x, c, rms, a1, a2, a3, a4, a5, a6, rfl, rfl, hrl, hrs, hro⟩ := hi
      rw [rngD_len] at hrl hrs
      refine as_ret (ae_var rfl ?_)
      have hs : rms.map Rm.size = sizes := by rw [hrs, ← hls, List.take_length]
      refine Or.inl ⟨1, .d (.lst (rms.map Rm.t)), Nat.le_refl _, .lst (by decide) rfl, by simp [MO.below, bag], p rms _ _ _ ⟨by omega, by omega, fun y hy => ?_⟩⟩
      rw [hs, hrl]
      exact hro y hy
end
end Wd
namespace Wd
open PySem PyProof.Rows L2 Al Gx
variable [Al.TabList]
theorem sc__law_web : FnScope ["_law_rooms_here", "_law_ears", "_law_wide", "_law_begin", "_law_table"] ["_law_rooms_here"] (defScope (top 29)) := ⟨rfl, rfl, rfl, by decide +kernel, rfl, by decide +kernel, by decide +kernel⟩
theorem all_from {l : List Int} {lo hi : Int} (h : ∀ t ∈ l, lo ≤ t ∧ t ≤ hi) : (l.map D.int).all (fromB lo hi) = true := by
  rw [List.all_eq_true]
  intro d hd
  obtain ⟨t, ht, rfl⟩ := List.mem_map.mp hd
  obtain ⟨h1, h2⟩ := h t ht
  show (decide (lo ≤ t) && decide (t ≤ hi)) = true
  rw [decide_eq_true h1, decide_eq_true h2]; rfl
theorem rows_prod {rms : List Rm} {n : Nat} {sizes : List Int} {w : Int} (hs : rms.map Rm.size = sizes) (hn : rms.length = n) (ok : ∀ x ∈ rms, x.Ok n sizes w) (hw : w ≤ 60) : ∀ (l : List Int) (a : Int), (∀ e ∈ l, 0 ≤ e ∧ e < n) → rowsD (rms.map Rm.rd) (l.map D.int) a = some (prodI sizes l a)
  | [], a, _ => rfl
  | e :: l, a, h => by
    have he := h e List.mem_cons_self
    have hl : e.toNat < rms.length := by omega
    have hx : (rms.map Rm.rd)[(toI (.int e)).toNat]? = some rms[e.toNat].rd := by
      show (rms.map Rm.rd)[e.toNat]? = _
      rw [List.getElem?_map, List.getElem?_eq_getElem hl]; rfl
    have hok := ok _ (List.getElem_mem hl)
    have hsz : sizes.getD e.toNat 0 = rms[e.toNat].size := by
      rw [← hs, List.getD, List.getElem?_map, List.getElem?_eq_getElem hl]; rfl
    show (match (rms.map Rm.rd)[(toI (.int e)).toNat]? with | some x => if fromB 1 60 x.s = true then rowsD (rms.map Rm.rd) (l.map D.int) (a * toI x.s) else none | none => none) = _
    rw [hx]
    dsimp only
    have hf : fromB 1 60 (rms[e.toNat].rd).s = true := by
      show (decide (1 ≤ rms[e.toNat].size) && decide (rms[e.toNat].size ≤ 60)) = true
      rw [decide_eq_true hok.s1, decide_eq_true (Int.le_trans hok.sw hw)]; rfl
    rw [if_pos hf, rows_prod hs hn ok hw l _ fun e' he' => h e' (List.mem_cons_of_mem _ he')]
    show some (prodI sizes l (a * rms[e.toNat].size)) = some (prodI sizes l (a * sizes.getD e.toNat 0))
    rw [hsz]
theorem prod_le {sizes : List Int} {w : Int} (h0 : 0 ≤ w) (hv : ∀ v ∈ sizes, 1 ≤ v ∧ v ≤ w) : ∀ (l : List Int) (a : Int), (∀ e ∈ l, 0 ≤ e ∧ e < sizes.length) → 0 ≤ a → prodI sizes l a ≤ a * w ^ l.length
  | [], a, _, _ => by show a ≤ a * w ^ 0; simp
  | e :: l, a, h, ha => by
    have he := h e List.mem_cons_self
    have hs := hv _ (getD_mem he.1 he.2)
    have := prod_le h0 hv l (a * sizes.getD e.toNat 0) (fun e' he' => h e' (List.mem_cons_of_mem _ he')) (Int.mul_nonneg ha (by omega))
    refine Int.le_trans this ?_
    rw [List.length_cons, Int.pow_succ]
    have h1 : 0 ≤ w ^ l.length := Int.pow_nonneg h0
    rw [Int.mul_comm (w ^ l.length) w, ← Int.mul_assoc]
    exact Int.mul_le_mul_of_nonneg_right (Int.mul_le_mul_of_nonneg_left hs.2 ha) h1
theorem hears_ok {rms : List Rm} {n : Nat} {sizes : List Int} {w : Int} {x : Rm} (ok : x.Ok n sizes w) : hearsB n (x.rd).h = true := by
  show (decide ((x.ears.map D.int).length ≤ 3) && ((x.ears.map D.int).all (fromB 0 ((n : Int) - 1)) && decide ((x.ears.map D.int).map toI).Nodup)) = true
  rw [decide_eq_true (by rw [List.length_map]; exact ok.few), all_from (fun t ht => by have := ok.rg t ht; omega), decide_eq_true (by rw [toI_map]; exact ok.nd)]
  rfl
theorem fault_ok {rms : List Rm} {n : Nat} {sizes : List Int} {w : Int} (hs : rms.map Rm.size = sizes) (hn : rms.length = n) (ok : ∀ x ∈ rms, x.Ok n sizes w) (hw : w ≤ 12) {x : Rm} (hx : x ∈ rms) : faultD (rms.map Rm.rd) x.rd = none := by
  have o := ok x hx
  unfold faultD
  rw [if_pos (by rw [List.length_map, hn]; exact hears_ok (rms := rms) o)]
  have h1 : fromB 1 60 (x.rd).s = true := by
    show (decide (1 ≤ x.size) && decide (x.size ≤ 60)) = true
    rw [decide_eq_true o.s1, decide_eq_true (by have := o.sw; omega)]; rfl
  have h2 : fromB 0 (toI (x.rd).s - 1) (x.rd).f = true := by
    show (decide (0 ≤ x.first) && decide (x.first ≤ x.size - 1)) = true
    rw [decide_eq_true o.f0, decide_eq_true (by have := o.f1; omega)]; rfl
  have h3 : ruleB (rms.map Rm.rd) x.rd = true := by
    have hp := rows_prod hs hn ok (by omega) x.ears 1 o.rg
    have hlen : sizes.length = n := by rw [← hs, List.length_map, hn]
    have hle := prod_le (sizes := sizes) (w := w) (by have := o.s1; have := o.sw; omega) (fun v hv => by
      rw [← hs] at hv
      obtain ⟨y, hy, rfl⟩ := List.mem_map.mp hv
      exact ⟨(ok y hy).s1, (ok y hy).sw⟩) x.ears 1 (by rw [hlen]; exact o.rg) (by decide)
    have hw0 : 0 ≤ w := by have := o.s1; have := o.sw; omega
    have hb : prodI sizes x.ears 1 ≤ 1728 := by
      refine Int.le_trans hle ?_
      rw [Int.one_mul]
      have hf := o.few
      have : x.ears.length = 0 ∨ x.ears.length = 1 ∨ x.ears.length = 2 ∨ x.ears.length = 3 := by omega
      have w2 : w * w ≤ 12 * 12 := Int.mul_le_mul hw hw hw0 (by decide)
      have w3 : w * w * w ≤ 12 * 12 * 12 := Int.mul_le_mul w2 hw hw0 (by decide)
      rcases this with h | h | h | h <;> rw [h]
      · rw [Int.pow_zero]; decide
      · rw [Int.pow_succ, Int.pow_zero, Int.one_mul]; omega
      · rw [Int.pow_succ, Int.pow_succ, Int.pow_zero, Int.one_mul]; omega
      · rw [Int.pow_succ, Int.pow_succ, Int.pow_succ, Int.pow_zero, Int.one_mul]; omega
    have htl := o.tl
    show (match rowsD (rms.map Rm.rd) (x.ears.map D.int) 1 with | some m => !decide (2000 < m) && (decide (((x.table.map D.int).length : Int) = m) && (x.table.map D.int).all (fromB 0 (x.size - 1))) | none => true) = true
    rw [hp]
    dsimp only
    rw [decide_eq_false (by omega), decide_eq_true (by rw [List.length_map]; exact htl), all_from (fun t ht => by have := o.tr t ht; omega)]
    rfl
  rw [if_pos h1, if_pos h2, if_pos h3]
theorem first_none {rs : List Rd} : ∀ {l : List Rd} {k : Nat}, (∀ x ∈ l, faultD rs x = none) → firstF rs k l = none
  | [], _, _ => rfl
  | x :: l, k, h => by
    show (match faultD rs x with | some s => some ((k : Int), s) | none => firstF rs (k + 1) l) = none
    rw [h x List.mem_cons_self]
    exact first_none fun y hy => h y (List.mem_cons_of_mem _ hy)
theorem web_ok {rms : List Rm} {most w : Int} (h : Rms rms most w) (hm : most ≤ 12) (hw : w ≤ 12) : webD (rms.map Rm.rd) = none := by
  have := h.n1
  have := h.nm
  unfold webD
  rw [if_pos (by rw [List.length_map]; omega)]
  exact first_none fun x hx => by
    obtain ⟨y, hy, rfl⟩ := List.mem_map.mp hx
    exact fault_ok rfl rfl h.ok hw hy
theorem heard_ok {rms : List Rm} {most w : Int} (h : Rms rms most w) : Heard (rms.map Rm.rd) := fun k x hx => by
  obtain ⟨y, hy, rfl⟩ := List.mem_map.mp (List.mem_of_getElem? hx)
  rw [List.length_map]
  exact hears_ok (rms := rms) (h.ok y hy)
end Wd
namespace Wd
open PySem PyProof.Rows L2 Al Gx
variable [Al.TabList]
def aLawWeb (C CW : Addr) : ASp := fun xs M Φ _ => ∃ (rms : List Rm) (m v : Int), xs = [.d (.lst (rms.map Rm.t))] ∧ M = [] ∧ Rms rms m v ∧ m ≤ 12 ∧ v ≤ 12 ∧ Φ (.d (webV C CW (rms.map Rm.rd))) []
theorem mono_lawWeb {C CW : Addr} : Mono (aLawWeb C CW) := fun xs M Φ Φ' Ψ Ψ' h1 _ ⟨rms, m, v, e1, e2, e3, e4, e5, p⟩ => ⟨rms, m, v, e1, e2, e3, e4, e5, h1 _ _ p⟩
local macro_rules | `(tactic| walk_at "alside") => `(tactic| first
  | decide
  | (dsimp only; decide)
  | exact Or.inr (by decide)
  | exact Or.inl (by decide)
  | (dsimp only; omega)
  | (unfold CDiv; omega)
  | (unfold CPow; omega)
  | (unfold CMul; omega)
  | assumption)
local macro_rules | `(tactic| walk_at "al1") => `(tactic| first
  | with_reducible refine as_asg ?_
  | with_reducible refine as_drop ?_
  | with_reducible refine as_ret ?_
  | with_reducible refine as_if ?_
  | with_reducible refine as_next ?_
  | with_reducible refine at_test ?_
  | with_reducible refine at_b ?_
  | with_reducible refine at_and ?_
  | with_reducible refine at_or ?_
  | with_reducible refine at_not ?_
  | with_reducible refine ae_op ?_
  | with_reducible refine ae_un ?_
  | with_reducible refine ae_cb ?_
  | with_reducible refine ae_if ?_
  | with_reducible refine ae_andV ?_
  | with_reducible refine ae_orV ?_
  | with_reducible refine ae_notV ?_
  | with_reducible refine ae_chain ?_
  | with_reducible refine ae_int ?_
  | with_reducible refine ae_bl ?_
  | with_reducible refine ae_non ?_
  | with_reducible refine ae_str ?_
  | with_reducible refine ae_ty ?_
  | with_reducible refine ae_adr ?_
  | with_reducible refine aa_nil ?_
  | with_reducible refine aa_cons ?_
  | with_reducible refine ag_name ?_
  | with_reducible refine ag_sub ?_
  | with_reducible refine at_yes ?_
  | ((with_reducible show AE _ _ (tVar _) _ _ _); refine ae_var rfl ?_)
  | ((with_reducible show AR _ _ (uAdd _) _ _ _ _); refine ur_addI ?_)
  | ((with_reducible show AR _ _ (uMul _) _ _ _ _); refine ur_mulI (by walk_at "alside") ?_)
  | ((with_reducible show AR _ _ (uEq _) _ _ _ _); first | refine ur_eqI ?_ | refine ur_eqS ?_ | refine ur_eqB ?_)
  | ((with_reducible show AR _ _ (uNe _) _ _ _ _); first | refine ur_neI ?_ | refine ur_neS ?_ | refine ur_neB ?_)
  | ((with_reducible show AR _ _ (rIx _) _ _ _ _); first | refine ur_ixM rfl rfl ?_ | refine ur_ixL rfl ?_ | refine ur_ixT rfl ?_ | refine ur_ixS rfl ?_)
  | ((with_reducible show AC _ _ (uLen _) _ _ _); first | refine uc_len (.tup _) ?_ | refine uc_len (.lst _) ?_ | refine uc_len (.scr _) ?_ | refine uc_len (.mm rfl) ?_)
  | ((with_reducible show AR _ _ (rI0 _) _ _ _ _); first | with_reducible refine ar_i0 ?_ | with_reducible refine ar_b0 ?_)
  | ((with_reducible show AU _ _ (rU _) _ _ _); with_reducible refine au_i ?_)
  | ((with_reducible show AR _ _ (rI _ _) _ _ _ _); refine ar_i (by walk_at "alside") ?_)
  | ((with_reducible show AR _ _ (rIxL _) _ _ _ _); first | refine ar_ixM rfl rfl ?_ | refine ar_ixL rfl ?_ | refine ar_ixS rfl ?_)
  | ((with_reducible show AR _ _ (rIxT _) _ _ _ _); refine ar_ixT rfl ?_)
  | ((with_reducible show AR _ _ rEq _ _ _ _); first | with_reducible refine ar_eqI ?_ | with_reducible refine ar_eqS ?_ | with_reducible refine ar_eqB ?_)
  | ((with_reducible show AR _ _ rNe _ _ _ _); first | with_reducible refine ar_neI ?_ | with_reducible refine ar_neS ?_ | with_reducible refine ar_neB ?_))
local macro_rules | `(tactic| walk_at "alds") => `(tactic| first
  | refine ⟨[], rfl, Nat.le_of_ble_eq_true rfl, ?_⟩
  | refine ⟨[_], rfl, Nat.le_of_ble_eq_true rfl, ?_⟩
  | refine ⟨[_, _], rfl, Nat.le_of_ble_eq_true rfl, ?_⟩
  | refine ⟨[_, _, _], rfl, Nat.le_of_ble_eq_true rfl, ?_⟩
  | refine ⟨[_, _, _, _], rfl, Nat.le_of_ble_eq_true rfl, ?_⟩
  | refine ⟨[_, _, _, _, _], rfl, Nat.le_of_ble_eq_true rfl, ?_⟩
  | refine ⟨[_, _, _, _, _, _], rfl, Nat.le_of_ble_eq_true rfl, ?_⟩
  | refine ⟨[_, _, _, _, _, _, _], rfl, Nat.le_of_ble_eq_true rfl, ?_⟩
  | refine ⟨[_, _, _, _, _, _, _, _], rfl, Nat.le_of_ble_eq_true rfl, ?_⟩
  | refine ⟨[_, _, _, _, _, _, _, _, _], rfl, Nat.le_of_ble_eq_true rfl, ?_⟩
  | refine ⟨[_, _, _, _, _, _, _, _, _, _], rfl, Nat.le_of_ble_eq_true rfl, ?_⟩
  | refine ⟨[_, _, _, _, _, _, _, _, _, _, _], rfl, Nat.le_of_ble_eq_true rfl, ?_⟩
  | refine ⟨[_, _, _, _, _, _, _, _, _, _, _, _], rfl, Nat.le_of_ble_eq_true rfl, ?_⟩)
local macro_rules | `(tactic| walk_at "alc") => `(tactic| refine ae_call0 (Ψ := fun _ _ => False) (by walk_at "almono") efits_none ?_)
local macro_rules | `(tactic| walk_at "al") => `(tactic| repeat (first | walk_at "al1" | with_reducible refine as_seq ?_ | with_reducible refine ae_tup ?_ | with_reducible walk_at "alc" | refine ⟨_, rfl, ?_⟩ | walk_at "alds" | refine ⟨_, _, _, _, _, rfl, rfl, rfl, rfl, rfl, ?_⟩))
local macro_rules | `(tactic| walk_at "alF") => `(tactic| repeat (first | walk_at "al1" | with_reducible refine as_seq ?_ | with_reducible refine ae_tup ?_ | with_reducible refine ae_lst ?_ | with_reducible walk_at "alc" | refine ⟨_, rfl, ?_⟩ | walk_at "alds" | refine ⟨_, _, _, _, _, rfl, rfl, rfl, rfl, rfl, ?_⟩))
local macro_rules | `(tactic| walk_at "alo") => `(tactic| repeat (first | walk_at "al1" | with_reducible refine ae_tup ?_ | with_reducible walk_at "alc" | refine ⟨_, rfl, ?_⟩ | walk_at "alds" | refine ⟨_, _, _, _, _, rfl, rfl, rfl, rfl, rfl, ?_⟩))
local macro_rules | `(tactic| walk_at "almono") => `(tactic| first | exact mono_take | exact mono_unlike | exact mono_rms)
section
variable {P : Program} {w : World} {K : PySem.W.Frag} {mg : Str → Option Value} {base : Heap} {C_Room C_Web C_NoWeb : Addr}
theorem ok_lawWeb {T1 T2 fI : Addr} {fdI : FuncData} (DD : DefAt K mg "_law_web" (top 29) ["_law_rooms_here"]) (T : Bt mg) (R : RoomC K C_Room) (R_Room : RoomM K C_Room T1 T2 fI fdI) (c_Room : mg "Room" = some (.ref C_Room))
    (G_Web : MkAt P w K mg base (L2.CX P w) 8 C_Web "Web" ["self", "rooms"] (aInitW C_Room C_Web C_NoWeb)) : FnAt P w K mg base CX0 10 "_law_web" ["_law_rooms_here"] (aLawWeb C_Room C_Web) := by
  have GI_Room : FnOk P w K mg base CX0 1 fI fdI psI (conc K (aInitR C_Room)) := ok_initR R_Room.fi R
  obtain ⟨i1, m1, b_1_size_first_rule⟩ := kb1 R_Room.fi
  have dT : ∀ W μ, RAs K W μ [.d (.tup [])] [.ref T1] := fun W μ => ras_cons (x := .d (.tup [])) (R_Room.t1 W) (show RAs K W μ [] [] from rfl)
  have dN : ∀ W μ, RAs K W μ [] [] := fun W μ => rfl
  refine fnat DD sc__law_web (fun xs M Φ Ψ h => ?_) (fun f cdv A outer s H E hr => ⟨_, (pss_one (ps_ret (pe_mk G_Web (hr.mono (by decide)) rfl passF (pa_cons (pe_callTy (k_tupOf K) (by rfl) T.tuple (by decide +kernel) (pa_cons (pe_lc (own := [("_law_ears", 1), ("_law_wide", 2), ("_law_begin", 3), ("_law_table", 4)]) rfl sc__law_web.nd (pi_seqK K (pv 0)) (blkOk_by (own := [("_law_ears", 1), ("_law_wide", 2), ("_law_begin", 3), ("_law_table", 4)]) (N := ["_law_rooms_here", "_law_ears", "_law_wide", "_law_begin", "_law_table"]) (sc := defScope (top 29)) (by decide +kernel)) (fun _ _ _ _ _ => by exact (pg_tupK (n := 4) K rfl (pgs_cons (pg_name (i := 1) sc__law_web.nd rfl (Or.inl rfl)) (pgs_cons (pg_name (i := 2) sc__law_web.nd rfl (Or.inl rfl)) (pgs_cons (pg_name (i := 3) sc__law_web.nd rfl (Or.inl rfl)) (pgs_cons (pg_name (i := 4) sc__law_web.nd rfl (Or.inl rfl)) pgs_nil)))))) (fun _ _ _ _ _ => by exact pts_nil) (fun _ _ _ _ _ => by exact (pe_makeK R_Room.mk_ GI_Room (hr.mono (by decide)) rfl c_Room b_1_size_first_rule pass0 (pa_cons (pv 1) pa_nil) (pk_cons (pv 2) (pk_cons (pv 3) (pk_cons (pv 4) pk_nil)))))) pa_nil)) pa_nil)))), fun B xs M Φ Ψ hB h => ?_⟩)
  · obtain ⟨rms, m, v, rfl, _⟩ := h
    rfl
  · obtain ⟨rms, m, v, rfl, rfl, hr, hm, hv, p⟩ := h
    have hlen := hr.nm
    refine as_ret (ae_make (das := []) (Ψ := fun _ _ => False) mono_initW efits_none (fun _ _ => rfl) (aa_cons (ae_cb (aa_cons (ae_map (l := rms.map Rm.t) (fun d => match d with | .tup [h, s, f, r] => Rd.d C_Room ⟨h, s, f, r⟩ | _ => .non) rfl
      (gk_tup (gks_name rfl (gks_name rfl (gks_name rfl (gks_name rfl gks_nil))))) (by rw [List.length_map, sizeLine_eq]; omega) (ai_seqL (ae_var rfl ⟨_, rfl, rfl, rfl, ?_⟩)) fun d hd acc => ?_)))))
    · rw [List.map_map]
      refine aa_nil (uc_tuple (.lst _) (aa_nil ?_))
      have e : rms.map ((fun d => match d with | .tup [h, s, f, r] => Rd.d C_Room ⟨h, s, f, r⟩ | _ => .non) ∘ Rm.t) = (rms.map Rm.rd).map (Rd.d C_Room) := by
        rw [List.map_map]
        exact List.map_congr_left fun x _ => rfl
      rw [e]
      refine sentI (ys := [.tup ((rms.map Rm.rd).map (Rd.d C_Room))]) mono_initW (by simp) ⟨rms.map Rm.rd, rfl, rfl, fine_ok rms, by rw [List.length_map]; omega, ?_⟩
      rw [web_ok hr hm hv]
      exact ⟨rfl, ["kept"], [.tup ((rms.map Rm.rd).map (Rd.d C_Room))], rfl, rt_d p⟩
    · obtain ⟨x, hx, rfl⟩ := List.mem_map.mp hd
      refine ag_tup rfl (ags_cons (ag_name (ags_cons (ag_name (ags_cons (ag_name (ags_cons (ag_name (ags_nil ?_)))))))))
      refine ae_makeP (Ψ := fun _ _ => False) mono_initR efits_none dT dN ?_
      walk_at "al"
      exact ⟨rfl, rfl, sent_room (by simp [MO.below]) ⟨rfl, rfl⟩⟩
end
end Wd
namespace Nd
section
variable {ear : Int → List Int} {kn : Cell → Bool} {cells : List Cell}
structure PileI (ear : Int → List Int) (kn : Cell → Bool) (cells fs ws : List Cell) : Prop where
  nf : fs.Nodup
  nd : ∀ c ∈ fs, NeedC ear kn cells c
  nw : ∀ c ∈ ws, NeedC ear kn cells c
  al : ∀ c ∈ cells, c ∈ fs ∨ c ∈ ws
  cl : ∀ c ∈ fs, kn c = false → ∀ d ∈ hearC ear c, d ∈ fs ∨ d ∈ ws
theorem PileI.done {fs : List Cell} (h : PileI ear kn cells fs []) (c : Cell) : c ∈ fs ↔ NeedC ear kn cells c := by
  refine ⟨h.nd c, fun hc => ?_⟩
  induction hc with
  | base hm => exact (h.al _ hm).resolve_right (by simp)
  | step _ hk hj ih => exact (h.cl _ ih hk _ (List.mem_map.mpr ⟨_, hj, rfl⟩)).resolve_right (by simp)
theorem or_last {fs ws : List Cell} {c d : Cell} (h : d ∈ fs ∨ d ∈ ws ++ [c]) : (d ∈ fs ∨ d ∈ ws) ∨ d = c := by
  rcases h with h | h
  · exact .inl (.inl h)
  · rcases List.mem_append.mp h with h | h
    · exact .inl (.inr h)
    · exact .inr (List.mem_singleton.mp h)
theorem PileI.old {fs ws : List Cell} {c : Cell} (h : PileI ear kn cells fs (ws ++ [c])) (hc : c ∈ fs) : PileI ear kn cells fs ws := by
  have ok : ∀ d, d ∈ fs ∨ d ∈ ws ++ [c] → d ∈ fs ∨ d ∈ ws := fun d hd => (or_last hd).elim id fun e => .inl (e ▸ hc)
  exact ⟨h.nf, h.nd, fun d hd => h.nw d (List.mem_append_left _ hd), fun d hd => ok d (h.al d hd), fun d hd hk e he => ok e (h.cl d hd hk e he)⟩
theorem PileI.more {fs ws new : List Cell} {c : Cell} (h : PileI ear kn cells fs (ws ++ [c])) (hc : c ∉ fs) (hn : ∀ d ∈ new, NeedC ear kn cells d) (hk : kn c = false → ∀ d ∈ hearC ear c, d ∈ new) : PileI ear kn cells (fs ++ [c]) (ws ++ new) := by
  have ok : ∀ d, d ∈ fs ∨ d ∈ ws ++ [c] → d ∈ fs ++ [c] ∨ d ∈ ws ++ new := fun d hd => by
    rcases or_last hd with (q | q) | q
    · exact .inl (List.mem_append_left _ q)
    · exact .inr (List.mem_append_left _ q)
    · exact .inl (List.mem_append_right _ (List.mem_singleton.mpr q))
  refine ⟨List.nodup_append.mpr ⟨h.nf, by simp, fun a ha b hb e => hc (by rw [List.mem_singleton.mp hb] at e; exact e ▸ ha)⟩, fun d hd => ?_, fun d hd => ?_, fun d hd => ok d (h.al d hd), fun d hd hkd e he => ?_⟩
  · rcases List.mem_append.mp hd with hd | hd
    · exact h.nd d hd
    · rw [List.mem_singleton.mp hd]; exact h.nw c (by simp)
  · rcases List.mem_append.mp hd with hd | hd
    · exact h.nw d (List.mem_append_left _ hd)
    · exact hn d hd
  · rcases List.mem_append.mp hd with hd | hd
    · exact ok e (h.cl d hd hkd e he)
    · rw [List.mem_singleton.mp hd] at hkd he
      exact .inr (List.mem_append_right _ (hk hkd e he))
end
end Nd
namespace Wd
open PySem PyProof.Rows L2 Al Gx Nd Dt
variable [Al.TabList]
theorem sc_is_known : FnScope ["cell", "pokes"] ["cell", "pokes"] (defScope (top 20)) := ⟨rfl, rfl, rfl, by decide +kernel, rfl, by decide +kernel, by decide +kernel⟩
theorem sc_heard_cells : FnScope ["web", "cell", "room", "beat", "heard"] ["web", "cell"] (defScope (top 21)) := ⟨rfl, rfl, rfl, by decide +kernel, rfl, by decide +kernel, by decide +kernel⟩
abbrev lastBeat : Int := 1000000000000000000000000000000000000000000000000000000000000
def aLookBeat (CE : Addr) : ASp := fun xs M Φ Ψ => ∃ x : D, xs = [.d x] ∧ M = [] ∧ flatD x = true ∧ (fromB 0 lastBeat x = true → Φ (.d .non) []) ∧ (fromB 0 lastBeat x = false → Ψ (CE, [("beat", x)]) [])
theorem mono_lookBeat {CE : Addr} : Mono (aLookBeat CE) := fun xs M Φ Φ' Ψ Ψ' h1 h2 ⟨x, e1, e2, e3, p, q⟩ => ⟨x, e1, e2, e3, fun h => h1 _ _ (p h), fun h => h2 _ _ (q h)⟩
def aKnown : ASp := fun xs M Φ _ => ∃ (c : Int × Int) (pm : Pm) (x : AV), xs = [.d (pk c), x] ∧ M.all MO.isD = true ∧ PkV M x pm ∧ Φ (.d (.bl (knB pm c))) M
theorem mono_known : Mono aKnown := fun xs M Φ Φ' Ψ Ψ' h1 _ ⟨c, pm, x, e1, e2, e3, p⟩ => ⟨c, pm, x, e1, e2, e3, h1 _ _ p⟩
def aHeardC (C CW : Addr) : ASp := fun xs M Φ _ => ∃ (rs : List Rd) (c : Int × Int), xs = [.d (webV C CW rs), .d (pk c)] ∧ M = [] ∧ Heard rs ∧ 0 ≤ c.1 ∧ c.1 < rs.length ∧ Φ (.d (.lst ((ears rs c.1).map fun j => pk (j, c.2 - 1)))) []
theorem mono_heardC {C CW : Addr} : Mono (aHeardC C CW) := fun xs M Φ Φ' Ψ Ψ' h1 _ ⟨rs, c, e1, e2, e3, e4, e5, p⟩ => ⟨rs, c, e1, e2, e3, e4, e5, h1 _ _ p⟩
def aRoomsH (C CW : Addr) : ASp := fun xs M Φ _ => ∃ (rs : List Rd) (L : List Int), xs = [.d (webV C CW rs), .d (.lst (L.map D.int))] ∧ M = [] ∧ Heard rs ∧ rs.length ≤ 12 ∧ (∀ k ∈ L, 0 ≤ k ∧ k < rs.length) ∧
  Φ (.d (.lst ((heardL rs.length (ears rs) L).map D.int))) []
theorem mono_roomsH {C CW : Addr} : Mono (aRoomsH C CW) := fun xs M Φ Φ' Ψ Ψ' h1 _ ⟨rs, L, e1, e2, e3, e4, e5, p⟩ => ⟨rs, L, e1, e2, e3, e4, e5, h1 _ _ p⟩
theorem below_isD {n : Nat} {o : MO} (h : o.isD = true) : o.below n = true := by
  have al : ∀ l : List AV, l.all AV.isD = true → l.all (AV.below n) = true := fun l hl => List.all_eq_true.mpr fun x hx => by
    have := List.all_eq_true.mp hl x hx
    cases x with
    | d y => rfl
    | m k => cases this
  cases o with
  | lst l => rfl
  | ins C ns l => exact al l h
  | ls l => exact al l h
  | dT ks l => exact al l h
  | dK ks l => exact al l h
/-- a promise with data handed in, which stands -/
theorem rt_D {M : List MO} {Φ : AV → List MO → Prop} {d : D} (hM : M.all MO.isD = true) (h : Φ (.d d) M) : RT M.length Φ (.d d) M :=
  Or.inl ⟨M.length, .d d, Nat.le_refl _, .dat, fun o ho => below_isD (List.all_eq_true.mp hM o (List.mem_of_mem_take ho)), by rw [List.take_length]; exact h⟩
theorem AV.below_mono {n m : Nat} {x : AV} (h : x.below n = true) (hl : n ≤ m) : x.below m = true := by
  cases x with
  | d y => rfl
  | m k => exact decide_eq_true (Nat.lt_of_lt_of_le (of_decide_eq_true h) hl)
theorem below_mono {n m : Nat} {o : MO} (h : o.below n = true) (hl : n ≤ m) : o.below m = true := by
  have al : ∀ l : List AV, l.all (AV.below n) = true → l.all (AV.below m) = true := fun l h => List.all_eq_true.mpr fun x hx => AV.below_mono (List.all_eq_true.mp h x hx) hl
  cases o with
  | lst l => rfl
  | ins C ns l => exact al l h
  | ls l => exact al l h
  | dT ks l => exact al l h
  | dK ks l => exact al l h
/-- all that stands is closed in itself -/
def Closed (M : List MO) : Prop := ∀ o ∈ M, o.below M.length = true
theorem Closed.nil : Closed [] := fun _ h => nomatch h
theorem Closed.more {M r : List MO} (h : Closed M) (hr : r.all MO.isD = true) {n : Nat} (hn : M.length ≤ n) : (M ++ r).all (MO.below n) = true := by
  rw [List.all_append, Bool.and_eq_true]
  exact ⟨List.all_eq_true.mpr fun o ho => below_mono (h o ho) hn, List.all_eq_true.mpr fun o ho => below_isD (List.all_eq_true.mp hr o ho)⟩
theorem rt_preC {M r : List MO} {Φ : AV → List MO → Prop} {d : D} (hM : Closed M) (h : Φ (.d d) M) : RT M.length Φ (.d d) (M ++ r) :=
  Or.inl ⟨M.length, .d d, Nat.le_refl _, .dat, fun o ho => hM o (by rw [List.take_left] at ho; exact ho), by rw [List.take_left]; exact h⟩
/-- a new list of data, told -/
theorem rt_new {M r : List MO} {Φ : AV → List MO → Prop} {l : List D} {k : Nat} (hM : Closed M) (hk : M.length ≤ k) (hl : (M ++ r)[k]? = some (.lst l)) (h : Φ (.m M.length) (M ++ [.lst l])) : RT M.length Φ (.m k) (M ++ r) :=
  Or.inr (Or.inl ⟨k, .lst l, rfl, hk, hl, rfl, fun o ho => hM o (by rw [List.take_left] at ho; exact ho), by rw [List.take_left]; exact h⟩)
theorem isD_dM (kvs : KD) : (dM kvs).isD = true := by
  show (kvs.map fun p => AV.d p.2).all AV.isD = true
  rw [List.all_map]
  exact List.all_eq_true.mpr fun _ _ => rfl
theorem isD_below {M : List MO} {n : Nat} (h : M.all MO.isD = true) : M.all (MO.below n) = true := List.all_eq_true.mpr fun o ho => below_isD (List.all_eq_true.mp h o ho)
theorem all_isD1 {M : List MO} {a : MO} (h : M.all MO.isD = true) (ha : a.isD = true) : (M ++ [a]).all MO.isD = true := by
  rw [List.all_append, h, List.all_cons, ha]; rfl
/-- what a room hears, as it stands in the web -/
theorem hears_at {rs : List Rd} (hh : Heard rs) {k : Int} (h0 : 0 ≤ k) (h1 : k < rs.length) : ∃ x, rs[k.toNat]? = some x ∧ x.h = .tup ((ears rs k).map D.int) ∧ (ears rs k).length ≤ 3 ∧ (ears rs k).Nodup ∧ ∀ j ∈ ears rs k, 0 ≤ j ∧ j < rs.length := by
  have hx : rs[k.toNat]? = some (rs[k.toNat]'(by omega)) := List.getElem?_eq_getElem _
  obtain ⟨el, eh, h3, hall, hnd⟩ := hears_in (hh _ _ hx)
  have ee : (ears rs k) = el.map toI := by
    unfold ears
    rw [hx]
    dsimp only
    rw [eh]
    rfl
  have e2 : el = (ears rs k).map D.int := by rw [ee]; exact ints_of hall
  refine ⟨_, hx, by rw [eh, ← e2], (ears_in hh).2, ?_, (ears_in hh).1⟩
  rw [ee]
  exact hnd
local macro_rules | `(tactic| walk_at "alside") => `(tactic| first
  | decide
  | (dsimp only; decide)
  | exact Or.inr (by decide)
  | exact Or.inl (by decide)
  | (dsimp only; omega)
  | (unfold CDiv; omega)
  | (unfold CPow; omega)
  | (unfold CMul; omega)
  | assumption)
local macro_rules | `(tactic| walk_at "al1") => `(tactic| first
  | with_reducible refine as_asg ?_
  | with_reducible refine as_drop ?_
  | with_reducible refine as_ret ?_
  | with_reducible refine as_if ?_
  | with_reducible refine as_next ?_
  | with_reducible refine at_test ?_
  | with_reducible refine at_b ?_
  | with_reducible refine at_and ?_
  | with_reducible refine at_or ?_
  | with_reducible refine at_not ?_
  | with_reducible refine ae_op ?_
  | with_reducible refine ae_un ?_
  | with_reducible refine ae_cb ?_
  | with_reducible refine ae_if ?_
  | with_reducible refine ae_andV ?_
  | with_reducible refine ae_orV ?_
  | with_reducible refine ae_notV ?_
  | with_reducible refine ae_chain ?_
  | with_reducible refine ae_int ?_
  | with_reducible refine ae_bl ?_
  | with_reducible refine ae_non ?_
  | with_reducible refine ae_str ?_
  | with_reducible refine ae_ty ?_
  | with_reducible refine ae_adr ?_
  | with_reducible refine aa_nil ?_
  | with_reducible refine aa_cons ?_
  | with_reducible refine ag_name ?_
  | with_reducible refine ag_sub ?_
  | with_reducible refine at_yes ?_
  | ((with_reducible show AE _ _ (tVar _) _ _ _); refine ae_var rfl ?_)
  | ((with_reducible show AR _ _ (uAdd _) _ _ _ _); refine ur_addI ?_)
  | ((with_reducible show AR _ _ (uMul _) _ _ _ _); refine ur_mulI (by walk_at "alside") ?_)
  | ((with_reducible show AR _ _ (uEq _) _ _ _ _); first | refine ur_eqI ?_ | refine ur_eqS ?_ | refine ur_eqB ?_)
  | ((with_reducible show AR _ _ (uNe _) _ _ _ _); first | refine ur_neI ?_ | refine ur_neS ?_ | refine ur_neB ?_)
  | ((with_reducible show AR _ _ (rIx _) _ _ _ _); first | refine ur_ixM rfl rfl ?_ | refine ur_ixL rfl ?_ | refine ur_ixT rfl ?_ | refine ur_ixS rfl ?_)
  | ((with_reducible show AC _ _ (uLen _) _ _ _); first | refine uc_len (.tup _) ?_ | refine uc_len (.lst _) ?_ | refine uc_len (.scr _) ?_ | refine uc_len (.mm rfl) ?_)
  | ((with_reducible show AR _ _ (rI0 _) _ _ _ _); first | with_reducible refine ar_i0 ?_ | with_reducible refine ar_b0 ?_)
  | ((with_reducible show AU _ _ (rU _) _ _ _); with_reducible refine au_i ?_)
  | ((with_reducible show AR _ _ (rI _ _) _ _ _ _); refine ar_i (by walk_at "alside") ?_)
  | ((with_reducible show AR _ _ (rIxL _) _ _ _ _); first | refine ar_ixM rfl rfl ?_ | refine ar_ixL rfl ?_ | refine ar_ixS rfl ?_)
  | ((with_reducible show AR _ _ (rIxT _) _ _ _ _); refine ar_ixT rfl ?_)
  | ((with_reducible show AR _ _ rEq _ _ _ _); first | with_reducible refine ar_eqI ?_ | with_reducible refine ar_eqS ?_ | with_reducible refine ar_eqB ?_)
  | ((with_reducible show AR _ _ rNe _ _ _ _); first | with_reducible refine ar_neI ?_ | with_reducible refine ar_neS ?_ | with_reducible refine ar_neB ?_))
local macro_rules | `(tactic| walk_at "alds") => `(tactic| first
  | refine ⟨[], rfl, Nat.le_of_ble_eq_true rfl, ?_⟩
  | refine ⟨[_], rfl, Nat.le_of_ble_eq_true rfl, ?_⟩
  | refine ⟨[_, _], rfl, Nat.le_of_ble_eq_true rfl, ?_⟩
  | refine ⟨[_, _, _], rfl, Nat.le_of_ble_eq_true rfl, ?_⟩
  | refine ⟨[_, _, _, _], rfl, Nat.le_of_ble_eq_true rfl, ?_⟩
  | refine ⟨[_, _, _, _, _], rfl, Nat.le_of_ble_eq_true rfl, ?_⟩
  | refine ⟨[_, _, _, _, _, _], rfl, Nat.le_of_ble_eq_true rfl, ?_⟩
  | refine ⟨[_, _, _, _, _, _, _], rfl, Nat.le_of_ble_eq_true rfl, ?_⟩
  | refine ⟨[_, _, _, _, _, _, _, _], rfl, Nat.le_of_ble_eq_true rfl, ?_⟩
  | refine ⟨[_, _, _, _, _, _, _, _, _], rfl, Nat.le_of_ble_eq_true rfl, ?_⟩
  | refine ⟨[_, _, _, _, _, _, _, _, _, _], rfl, Nat.le_of_ble_eq_true rfl, ?_⟩
  | refine ⟨[_, _, _, _, _, _, _, _, _, _, _], rfl, Nat.le_of_ble_eq_true rfl, ?_⟩
  | refine ⟨[_, _, _, _, _, _, _, _, _, _, _, _], rfl, Nat.le_of_ble_eq_true rfl, ?_⟩)
local macro_rules | `(tactic| walk_at "alc") => `(tactic| refine ae_call0 (Ψ := fun _ _ => False) (by walk_at "almono") efits_none ?_)
local macro_rules | `(tactic| walk_at "al") => `(tactic| repeat (first | walk_at "al1" | with_reducible refine as_seq ?_ | with_reducible refine ae_tup ?_ | with_reducible walk_at "alc" | refine ⟨_, rfl, ?_⟩ | walk_at "alds" | refine ⟨_, _, _, _, _, rfl, rfl, rfl, rfl, rfl, ?_⟩))
local macro_rules | `(tactic| walk_at "alF") => `(tactic| repeat (first | walk_at "al1" | with_reducible refine as_seq ?_ | with_reducible refine ae_tup ?_ | with_reducible refine ae_lst ?_ | with_reducible walk_at "alc" | refine ⟨_, rfl, ?_⟩ | walk_at "alds" | refine ⟨_, _, _, _, _, rfl, rfl, rfl, rfl, rfl, ?_⟩))
local macro_rules | `(tactic| walk_at "alo") => `(tactic| repeat (first | walk_at "al1" | with_reducible refine ae_tup ?_ | with_reducible walk_at "alc" | refine ⟨_, rfl, ?_⟩ | walk_at "alds" | refine ⟨_, _, _, _, _, rfl, rfl, rfl, rfl, rfl, ?_⟩))
local macro_rules | `(tactic| walk_at "almono") => `(tactic| first | exact mono_from | exact mono_lookBeat)
section
variable {B : Base} {K : PySem.W.Frag} {σ : AEnv} {M : List MO} {te : TE} {Φ : AV → List MO → Prop} {C CW : Addr}
/-- web.rooms()[r].hears -/
theorem ae_hears {rs : List Rd} {i : Nat} {k : Int} (W : WebC K CW) (R : RoomC K C) (hh : Heard rs) (h0 : 0 ≤ k) (h1 : k < rs.length) (hσ : σ[i]? = some (some (.d (webV C CW rs)))) (h : AE B K te σ M fun y M1 => y = .d (.int k) ∧ Φ (.d (.tup ((ears rs k).map D.int))) M1) :
    AE B K (tFld K (tOp (rIx K) (tMeth CW "rooms" (conc K (aRoomsW C CW)) [] (fun _ _ _ => False) (tVar i) tNil) te) "hears") σ M Φ := by
  obtain ⟨x, hx, eh, _⟩ := hears_at hh h0 h1
  refine ae_fld (ae_op (ae_meth (Ψ := fun _ _ => False) mono_roomsW efits_none (das := []) (fun _ _ => rfl) (ae_var hσ ⟨["kept"], _, rfl, by decide +kernel, aa_nil ?_⟩)))
  refine sent0 (ys := [webV C CW rs]) mono_roomsW ⟨rs, rfl, rfl, rfl, _, rfl, h.imp fun y M1 ⟨ey, p⟩ => ?_⟩
  subst ey
  have hat := room_at (C := C) hx
  rw [show ((k.toNat : Nat) : Int) = k from by omega] at hat
  exact ur_ixT hat ⟨C, nms, _, _, rfl, R.cl, R.hears, rfl, by rw [eh]; exact p⟩
end
section
variable {P : Program} {w : World} {K : PySem.W.Frag} {mg : Str → Option Value} {base : Heap} {C_Room C_Web C_NoRoom C_NoBeat : Addr}
theorem ok_known (DD : DefAt K mg "is_known" (top 20) ["cell", "pokes"]) : FnAt P w K mg base CX0 1 "is_known" ["cell", "pokes"] aKnown := by
  refine fnat DD sc_is_known (fun xs M Φ Ψ h => ?_) (fun f cdv A outer s H E hr => ⟨_, (pss_one (ps_ret (pe_or (pe_cmpR (k_eq K hr.units) (pe_ix (k_ix K) (pv 0) pe_int (fun _ _ => rfl)) pe_int (nomark _)) (pe_one (pe_and (pe_cmpR op_notN (pv 1) pe_non (nomark _)) (pe_one (pe_cmpR (k_inD hr.units) (pv 0) (pv 1) (by rfl)))))))), fun B xs M Φ Ψ hB h => ?_⟩)
  · obtain ⟨c, pm, x, rfl, _⟩ := h
    rfl
  · obtain ⟨c, pm, x, rfl, hM, hx, p⟩ := h
    refine as_ret (ae_orV (ae_op (ae_op (ae_var rfl (ae_int (ur_ixK (k := .inl c.2) rfl (ae_int (ur_eqI ⟨_, rfl, fun h => ?_, fun h => ?_⟩))))))))
    · have e : knB pm c = true := by unfold knB; rw [h]; rfl
      rw [e] at p
      exact rt_D hM p
    · have e : knB pm c = pokedB pm c := by unfold knB; rw [h]; rfl
      rw [e] at p
      refine ae_andV (ae_op (ae_var rfl (ae_non (ar_notPk hx ⟨_, rfl, fun hn => ?_, fun hn => ?_⟩))))
      · exact ae_op (ae_var rfl (ae_var rfl (ar_inPk hx (fun z => by subst z; cases hn) (rt_D hM p))))
      · have e2 : pokedB pm c = false := by
          cases hx with
          | non => rfl
          | frz pm => cases hn
          | mm h => cases hn
        rw [e2] at p
        exact rt_D hM p
theorem ok_heardC (DD : DefAt K mg "heard_cells" (top 21) ["web", "cell"]) (W : WebC K C_Web) (R : RoomC K C_Room) (cWeb : Cls K C_Web) (G_Web_rooms : MethAt P w K mg base CX0 1 C_Web "rooms" ["self"] (aRoomsW C_Room C_Web)) :
    FnAt P w K mg base CX0 2 "heard_cells" ["web", "cell"] (aHeardC C_Room C_Web) := by
  refine fnat DD sc_heard_cells (fun xs M Φ Ψ h => ?_) (fun f cdv A outer s H E hr => ⟨_, (pss_cons (ps_asg (pv 1) (pg_tupK (n := 2) K rfl (pgs_cons (pg_name (i := 2) sc_heard_cells.nd rfl (Or.inl rfl)) (pgs_cons (pg_name (i := 3) sc_heard_cells.nd rfl (Or.inr rfl)) pgs_nil)))) (pss_one (ps_ret (pe_lc (own := [("heard", 4)]) rfl sc_heard_cells.nd (pi_seqK K (by exact (pe_fldK K (pe_ix (k_ix K) (pe_mt0 (pv 0) cWeb G_Web_rooms (hr.mono (by decide)) pass0) (pv 2) (fun _ _ => rfl)) (by rfl)))) (blkOk_by (own := [("heard", 4)]) (N := ["web", "cell", "room", "beat", "heard"]) (sc := defScope (top 21)) (by decide +kernel)) (fun _ _ _ _ _ => by exact (pg_name (i := 4) sc_heard_cells.nd rfl (Or.inl rfl))) (fun _ _ _ _ _ => by exact pts_nil) (fun _ _ _ _ _ => by exact (pe_tup (pa_cons (pv 4) (pa_cons (pe_op op_sub (pv 3) pe_int) pa_nil)))))))), fun B xs M Φ Ψ hB h => ?_⟩)
  · obtain ⟨rs, c, rfl, _⟩ := h
    rfl
  · obtain ⟨rs, c, rfl, rfl, hh, h0, h1, p⟩ := h
    obtain ⟨x, hx, eh, h3, _⟩ := hears_at hh h0 h1
    have pe : ((ears rs c.1).map fun j => pk (j, c.2 - 1)) = ((ears rs c.1).map D.int).map fun d => pk (toI d, c.2 - 1) := by rw [List.map_map]; rfl
    rw [pe] at p
    refine as_seq (as_asg (ae_var rfl (ag_tupK rfl (ags_cons (ag_name (ags_cons (ag_name (ags_nil ?_))))))))
    refine as_ret (ae_map (l := (ears rs c.1).map D.int) (fun d => pk (toI d, c.2 - 1)) rfl (gk_name rfl) (by rw [List.length_map, sizeLine_eq]; omega) (ai_seqT (ae_hears W R hh h0 h1 rfl (ae_var rfl ⟨rfl, _, rfl, rfl, rfl, rt_d p⟩))) fun d hd acc => ?_)
    obtain ⟨j, hj, rfl⟩ := List.mem_map.mp hd
    exact ag_name (ae_tupK (aa_cons (ae_var rfl (aa_cons (ae_op (ae_var rfl (ae_int (ar_i0 (aa_nil ⟨key2 (j, c.2 - 1), rfl, Nat.le_of_ble_eq_true rfl, rfl, rfl⟩)))))))))
end
end Wd
namespace Wd
open PySem PyProof.Rows L2 Al Gx Nd Dt Lm Cb NdefX
variable [Al.TabList]
section
variable (ly : Nat → List Int) (ct : Nat → Nat)
def Apart (k : Nat) : Prop := ∀ i j, i ≤ k → j ≤ k → ly i = ly j → i = j
end
section
variable {ly : Nat → List Int} {ct : Nat → Nat} {k : Nat}
theorem atI_last {l : List D} {n : Nat} {d : D} (hl : l.length = n + 1) (h : l[n]? = some d) : atI l (-1) = some d := by
  unfold atI ixN
  rw [if_neg (by omega), if_pos (by omega), Option.bind_some]
  rw [hl, show ((-1 : Int) + ((n + 1 : Nat) : Int)).toNat = n from by omega]
  exact h
theorem Apart.more (ha : Apart ly k) (h : ∀ i, i ≤ k → ly i ≠ ly (k + 1)) : Apart ly (k + 1) := fun i j hi hj e => by
  by_cases h1 : i = k + 1
  · by_cases h2 : j = k + 1
    · omega
    · subst h1
      exact absurd e.symm (h j (by omega))
  · by_cases h2 : j = k + 1
    · subst h2
      exact absurd e (h i (by omega))
    · exact ha i j (by omega) (by omega) e
end
local macro_rules | `(tactic| walk_at "alside") => `(tactic| first
  | decide
  | (dsimp only; decide)
  | exact Or.inr (by decide)
  | exact Or.inl (by decide)
  | (dsimp only; omega)
  | (unfold CDiv; omega)
  | (unfold CPow; omega)
  | (unfold CMul; omega)
  | assumption)
local macro_rules | `(tactic| walk_at "al1") => `(tactic| first
  | with_reducible refine as_asg ?_
  | with_reducible refine as_drop ?_
  | with_reducible refine as_ret ?_
  | with_reducible refine as_if ?_
  | with_reducible refine as_next ?_
  | with_reducible refine at_test ?_
  | with_reducible refine at_b ?_
  | with_reducible refine at_and ?_
  | with_reducible refine at_or ?_
  | with_reducible refine at_not ?_
  | with_reducible refine ae_op ?_
  | with_reducible refine ae_un ?_
  | with_reducible refine ae_cb ?_
  | with_reducible refine ae_if ?_
  | with_reducible refine ae_andV ?_
  | with_reducible refine ae_orV ?_
  | with_reducible refine ae_notV ?_
  | with_reducible refine ae_chain ?_
  | with_reducible refine ae_int ?_
  | with_reducible refine ae_bl ?_
  | with_reducible refine ae_non ?_
  | with_reducible refine ae_str ?_
  | with_reducible refine ae_ty ?_
  | with_reducible refine ae_adr ?_
  | with_reducible refine aa_nil ?_
  | with_reducible refine aa_cons ?_
  | with_reducible refine ag_name ?_
  | with_reducible refine ag_sub ?_
  | with_reducible refine at_yes ?_
  | ((with_reducible show AE _ _ (tVar _) _ _ _); refine ae_var rfl ?_)
  | ((with_reducible show AR _ _ (uAdd _) _ _ _ _); refine ur_addI ?_)
  | ((with_reducible show AR _ _ (uMul _) _ _ _ _); refine ur_mulI (by walk_at "alside") ?_)
  | ((with_reducible show AR _ _ (uEq _) _ _ _ _); first | refine ur_eqI ?_ | refine ur_eqS ?_ | refine ur_eqB ?_)
  | ((with_reducible show AR _ _ (uNe _) _ _ _ _); first | refine ur_neI ?_ | refine ur_neS ?_ | refine ur_neB ?_)
  | ((with_reducible show AR _ _ (rIx _) _ _ _ _); first | refine ur_ixM rfl rfl ?_ | refine ur_ixL rfl ?_ | refine ur_ixT rfl ?_ | refine ur_ixS rfl ?_)
  | ((with_reducible show AC _ _ (uLen _) _ _ _); first | refine uc_len (.tup _) ?_ | refine uc_len (.lst _) ?_ | refine uc_len (.scr _) ?_ | refine uc_len (.mm rfl) ?_)
  | ((with_reducible show AR _ _ (rI0 _) _ _ _ _); first | with_reducible refine ar_i0 ?_ | with_reducible refine ar_b0 ?_)
  | ((with_reducible show AU _ _ (rU _) _ _ _); with_reducible refine au_i ?_)
  | ((with_reducible show AR _ _ (rI _ _) _ _ _ _); refine ar_i (by walk_at "alside") ?_)
  | ((with_reducible show AR _ _ (rIxL _) _ _ _ _); first | refine ar_ixM rfl rfl ?_ | refine ar_ixL rfl ?_ | refine ar_ixS rfl ?_)
  | ((with_reducible show AR _ _ (rIxT _) _ _ _ _); refine ar_ixT rfl ?_)
  | ((with_reducible show AR _ _ rEq _ _ _ _); first | with_reducible refine ar_eqI ?_ | with_reducible refine ar_eqS ?_ | with_reducible refine ar_eqB ?_)
  | ((with_reducible show AR _ _ rNe _ _ _ _); first | with_reducible refine ar_neI ?_ | with_reducible refine ar_neS ?_ | with_reducible refine ar_neB ?_))
local macro_rules | `(tactic| walk_at "alds") => `(tactic| first
  | refine ⟨[], rfl, Nat.le_of_ble_eq_true rfl, ?_⟩
  | refine ⟨[_], rfl, Nat.le_of_ble_eq_true rfl, ?_⟩
  | refine ⟨[_, _], rfl, Nat.le_of_ble_eq_true rfl, ?_⟩
  | refine ⟨[_, _, _], rfl, Nat.le_of_ble_eq_true rfl, ?_⟩
  | refine ⟨[_, _, _, _], rfl, Nat.le_of_ble_eq_true rfl, ?_⟩
  | refine ⟨[_, _, _, _, _], rfl, Nat.le_of_ble_eq_true rfl, ?_⟩
  | refine ⟨[_, _, _, _, _, _], rfl, Nat.le_of_ble_eq_true rfl, ?_⟩
  | refine ⟨[_, _, _, _, _, _, _], rfl, Nat.le_of_ble_eq_true rfl, ?_⟩
  | refine ⟨[_, _, _, _, _, _, _, _], rfl, Nat.le_of_ble_eq_true rfl, ?_⟩
  | refine ⟨[_, _, _, _, _, _, _, _, _], rfl, Nat.le_of_ble_eq_true rfl, ?_⟩
  | refine ⟨[_, _, _, _, _, _, _, _, _, _], rfl, Nat.le_of_ble_eq_true rfl, ?_⟩
  | refine ⟨[_, _, _, _, _, _, _, _, _, _, _], rfl, Nat.le_of_ble_eq_true rfl, ?_⟩
  | refine ⟨[_, _, _, _, _, _, _, _, _, _, _, _], rfl, Nat.le_of_ble_eq_true rfl, ?_⟩)
local macro_rules | `(tactic| walk_at "alc") => `(tactic| refine ae_call0 (Ψ := fun _ _ => False) (by walk_at "almono") efits_none ?_)
local macro_rules | `(tactic| walk_at "al") => `(tactic| repeat (first | walk_at "al1" | with_reducible refine as_seq ?_ | with_reducible refine ae_tup ?_ | with_reducible walk_at "alc" | refine ⟨_, rfl, ?_⟩ | walk_at "alds" | refine ⟨_, _, _, _, _, rfl, rfl, rfl, rfl, rfl, ?_⟩))
local macro_rules | `(tactic| walk_at "alF") => `(tactic| repeat (first | walk_at "al1" | with_reducible refine as_seq ?_ | with_reducible refine ae_tup ?_ | with_reducible refine ae_lst ?_ | with_reducible walk_at "alc" | refine ⟨_, rfl, ?_⟩ | walk_at "alds" | refine ⟨_, _, _, _, _, rfl, rfl, rfl, rfl, rfl, ?_⟩))
local macro_rules | `(tactic| walk_at "alo") => `(tactic| repeat (first | walk_at "al1" | with_reducible refine ae_tup ?_ | with_reducible walk_at "alc" | refine ⟨_, rfl, ?_⟩ | walk_at "alds" | refine ⟨_, _, _, _, _, rfl, rfl, rfl, rfl, rfl, ?_⟩))
local macro_rules | `(tactic| walk_at "almono") => `(tactic| first | exact mono_from | exact mono_roomsH)
end Wd
namespace Wd
open PySem PySem.Spec PyProof.Rows L2 Al Gx Nd Dt Lm Cb NdefX
variable [Al.TabList]
def Steady (kn : Int × Int → Bool) (low b0 : Int) (stops : List Int) : Prop := ∀ b, low < b → b < b0 → b ∉ stops → b + 1 ∉ stops → ∀ r, kn (r, b) = kn (r, b + 1)
/-- how far the walk down is: at the t-th layer, those of vis behind it -/
structure VisI (b0 low : Int) (stops : List Int) (T t : Nat) (vis : List Nat) : Prop where
  le : t ≤ T
  lt : vis.Pairwise (· < ·)
  be : ∀ i ∈ vis, i < t
  of : ∀ i ∈ vis, i = 0 ∨ i = T ∨ (b0 - i) ∈ stops
  at_ : t = 0 ∨ t = T ∨ (b0 - t) ∈ stops
  al : ∀ s ∈ stops, b0 - t < s → s ≤ b0 → (b0 - s).toNat ∈ vis
theorem VisI.few {b0 low : Int} {stops : List Int} {T t : Nat} {vis : List Nat} (h : VisI b0 low stops T t vis) (hb : b0 = low + (T : Int)) : vis.length ≤ stops.length + 2 := by
  have := nodup_le (ns := 0 :: T :: stops.map fun s => (b0 - s).toNat) (h.lt.imp fun h => Nat.ne_of_lt h) fun i hi => by
    rcases h.of i hi with e | e | e
    · subst e; exact List.mem_cons_self
    · subst e; exact List.mem_cons_of_mem _ List.mem_cons_self
    · refine List.mem_cons_of_mem _ (List.mem_cons_of_mem _ (List.mem_map.mpr ⟨_, e, ?_⟩))
      omega
  simpa using this
/-- the next one that is looked at -/
theorem VisI.next {b0 low m : Int} {stops : List Int} {T t : Nat} {vis : List Nat} (h : VisI b0 low stops T t vis) (hb : b0 = low + (T : Int)) (ht : t < T) (m1 : low ≤ m) (m2 : m ≤ b0 - t - 1) (m3 : m = low ∨ m ∈ stops) (m4 : ∀ s ∈ stops, low ≤ s → s ≤ b0 - t - 1 → s ≤ m) :
    VisI b0 low stops T (b0 - m).toNat (vis ++ [t]) := by
  refine ⟨by omega, List.pairwise_append.mpr ⟨h.lt, by simp, fun a ha b hb => by rw [List.mem_singleton.mp hb]; exact h.be a ha⟩, fun i hi => ?_, fun i hi => ?_, ?_, fun s hs h1 h2 => ?_⟩
  · rcases List.mem_append.mp hi with hi | hi
    · have := h.be i hi; omega
    · rw [List.mem_singleton.mp hi]; omega
  · rcases List.mem_append.mp hi with hi | hi
    · exact h.of i hi
    · rw [List.mem_singleton.mp hi]; exact h.at_
  · rcases m3 with e | e
    · subst e; right; left; omega
    · right; right
      rw [show b0 - ((b0 - m).toNat : Int) = m from by omega]
      exact e
  · rcases Int.lt_or_le (b0 - t) s with h3 | h3
    · exact List.mem_append_left _ (h.al s hs h3 h2)
    · rcases Int.lt_or_le s (b0 - t) with h4 | h4
      · have := m4 s hs (by omega) (by omega)
        omega
      · rw [show (b0 - s).toNat = t from by omega]
        exact List.mem_append_right _ (by simp)
/-- a whole stretch is steady -/
theorem Steady.run {kn : Int × Int → Bool} {low b0 m : Int} {stops : List Int} {t : Nat} (h : Steady kn low b0 stops) (m1 : low ≤ m) (m4 : ∀ s ∈ stops, low ≤ s → s ≤ b0 - t - 1 → s ≤ m) : ∀ i : Nat, m < b0 - t - 1 - i → ∀ r, kn (r, b0 - t - 1 - i) = kn (r, b0 - t - 1)
  | 0, _, r => by rw [show b0 - (t : Int) - 1 - ((0 : Nat) : Int) = b0 - t - 1 from by omega]
  | i + 1, hi, r => by
    have ih := Steady.run h m1 m4 i (by omega) r
    rw [← ih]
    have e : b0 - (t : Int) - 1 - ((i + 1 : Nat) : Int) + 1 = b0 - t - 1 - i := by omega
    have := h (b0 - t - 1 - ((i + 1 : Nat) : Int)) (by omega) (by omega) (fun hs => by have := m4 _ hs (by omega) (by omega); omega) (fun hs => by rw [e] at hs; have := m4 _ hs (by omega) (by omega); omega) r
    rw [e] at this
    exact this
local macro_rules | `(tactic| walk_at "alside") => `(tactic| first
  | decide
  | (dsimp only; decide)
  | exact Or.inr (by decide)
  | exact Or.inl (by decide)
  | (dsimp only; omega)
  | (unfold CDiv; omega)
  | (unfold CPow; omega)
  | (unfold CMul; omega)
  | assumption)
local macro_rules | `(tactic| walk_at "al1") => `(tactic| first
  | with_reducible refine as_asg ?_
  | with_reducible refine as_drop ?_
  | with_reducible refine as_ret ?_
  | with_reducible refine as_if ?_
  | with_reducible refine as_next ?_
  | with_reducible refine at_test ?_
  | with_reducible refine at_b ?_
  | with_reducible refine at_and ?_
  | with_reducible refine at_or ?_
  | with_reducible refine at_not ?_
  | with_reducible refine ae_op ?_
  | with_reducible refine ae_un ?_
  | with_reducible refine ae_cb ?_
  | with_reducible refine ae_if ?_
  | with_reducible refine ae_andV ?_
  | with_reducible refine ae_orV ?_
  | with_reducible refine ae_notV ?_
  | with_reducible refine ae_chain ?_
  | with_reducible refine ae_int ?_
  | with_reducible refine ae_bl ?_
  | with_reducible refine ae_non ?_
  | with_reducible refine ae_str ?_
  | with_reducible refine ae_ty ?_
  | with_reducible refine ae_adr ?_
  | with_reducible refine aa_nil ?_
  | with_reducible refine aa_cons ?_
  | with_reducible refine ag_name ?_
  | with_reducible refine ag_sub ?_
  | with_reducible refine at_yes ?_
  | ((with_reducible show AE _ _ (tVar _) _ _ _); refine ae_var rfl ?_)
  | ((with_reducible show AR _ _ (uAdd _) _ _ _ _); refine ur_addI ?_)
  | ((with_reducible show AR _ _ (uMul _) _ _ _ _); refine ur_mulI (by walk_at "alside") ?_)
  | ((with_reducible show AR _ _ (uEq _) _ _ _ _); first | refine ur_eqI ?_ | refine ur_eqS ?_ | refine ur_eqB ?_)
  | ((with_reducible show AR _ _ (uNe _) _ _ _ _); first | refine ur_neI ?_ | refine ur_neS ?_ | refine ur_neB ?_)
  | ((with_reducible show AR _ _ (rIx _) _ _ _ _); first | refine ur_ixM rfl rfl ?_ | refine ur_ixL rfl ?_ | refine ur_ixT rfl ?_ | refine ur_ixS rfl ?_)
  | ((with_reducible show AC _ _ (uLen _) _ _ _); first | refine uc_len (.tup _) ?_ | refine uc_len (.lst _) ?_ | refine uc_len (.scr _) ?_ | refine uc_len (.mm rfl) ?_)
  | ((with_reducible show AR _ _ (rI0 _) _ _ _ _); first | with_reducible refine ar_i0 ?_ | with_reducible refine ar_b0 ?_)
  | ((with_reducible show AU _ _ (rU _) _ _ _); with_reducible refine au_i ?_)
  | ((with_reducible show AR _ _ (rI _ _) _ _ _ _); refine ar_i (by walk_at "alside") ?_)
  | ((with_reducible show AR _ _ (rIxL _) _ _ _ _); first | refine ar_ixM rfl rfl ?_ | refine ar_ixL rfl ?_ | refine ar_ixS rfl ?_)
  | ((with_reducible show AR _ _ (rIxT _) _ _ _ _); refine ar_ixT rfl ?_)
  | ((with_reducible show AR _ _ rEq _ _ _ _); first | with_reducible refine ar_eqI ?_ | with_reducible refine ar_eqS ?_ | with_reducible refine ar_eqB ?_)
  | ((with_reducible show AR _ _ rNe _ _ _ _); first | with_reducible refine ar_neI ?_ | with_reducible refine ar_neS ?_ | with_reducible refine ar_neB ?_))
local macro_rules | `(tactic| walk_at "alds") => `(tactic| first
  | refine ⟨[], rfl, Nat.le_of_ble_eq_true rfl, ?_⟩
  | refine ⟨[_], rfl, Nat.le_of_ble_eq_true rfl, ?_⟩
  | refine ⟨[_, _], rfl, Nat.le_of_ble_eq_true rfl, ?_⟩
  | refine ⟨[_, _, _], rfl, Nat.le_of_ble_eq_true rfl, ?_⟩
  | refine ⟨[_, _, _, _], rfl, Nat.le_of_ble_eq_true rfl, ?_⟩
  | refine ⟨[_, _, _, _, _], rfl, Nat.le_of_ble_eq_true rfl, ?_⟩
  | refine ⟨[_, _, _, _, _, _], rfl, Nat.le_of_ble_eq_true rfl, ?_⟩
  | refine ⟨[_, _, _, _, _, _, _], rfl, Nat.le_of_ble_eq_true rfl, ?_⟩
  | refine ⟨[_, _, _, _, _, _, _, _], rfl, Nat.le_of_ble_eq_true rfl, ?_⟩
  | refine ⟨[_, _, _, _, _, _, _, _, _], rfl, Nat.le_of_ble_eq_true rfl, ?_⟩
  | refine ⟨[_, _, _, _, _, _, _, _, _, _], rfl, Nat.le_of_ble_eq_true rfl, ?_⟩
  | refine ⟨[_, _, _, _, _, _, _, _, _, _, _], rfl, Nat.le_of_ble_eq_true rfl, ?_⟩
  | refine ⟨[_, _, _, _, _, _, _, _, _, _, _, _], rfl, Nat.le_of_ble_eq_true rfl, ?_⟩)
local macro_rules | `(tactic| walk_at "alc") => `(tactic| refine ae_call0 (Ψ := fun _ _ => False) (by walk_at "almono") efits_none ?_)
local macro_rules | `(tactic| walk_at "al") => `(tactic| repeat (first | walk_at "al1" | with_reducible refine as_seq ?_ | with_reducible refine ae_tup ?_ | with_reducible walk_at "alc" | refine ⟨_, rfl, ?_⟩ | walk_at "alds" | refine ⟨_, _, _, _, _, rfl, rfl, rfl, rfl, rfl, ?_⟩))
local macro_rules | `(tactic| walk_at "alF") => `(tactic| repeat (first | walk_at "al1" | with_reducible refine as_seq ?_ | with_reducible refine ae_tup ?_ | with_reducible refine ae_lst ?_ | with_reducible walk_at "alc" | refine ⟨_, rfl, ?_⟩ | walk_at "alds" | refine ⟨_, _, _, _, _, rfl, rfl, rfl, rfl, rfl, ?_⟩))
local macro_rules | `(tactic| walk_at "alo") => `(tactic| repeat (first | walk_at "al1" | with_reducible refine ae_tup ?_ | with_reducible walk_at "alc" | refine ⟨_, rfl, ?_⟩ | walk_at "alds" | refine ⟨_, _, _, _, _, rfl, rfl, rfl, rfl, rfl, ?_⟩))
local macro_rules | `(tactic| walk_at "almono") => `(tactic| first | exact mono_from | exact mono_roomsH)
end Wd
namespace Wd
open PySem PySem.Spec PyProof.Rows L2 Al Gx Nd Dt Lm Cb NdefX
variable [Al.TabList]
section
variable {P : Program} {w : World} {K : PySem.W.Frag} {mg : Str → Option Value} {base : Heap}
/-- .. is known, by the captured pokes -/
def spKn (K : PySem.W.Frag) (wsv : List V) : Sp := fun vs H Q E => ∃ v p, vs = [v] ∧ wsv = [p] ∧ concL K aKnown wsv vs H Q (fun _ _ _ => False)
theorem knows_known {M : List MO} {pv : AV} {pm : Pm} (h : PkV M pv pm) : Knows pk aKnown [pv] M (knB pm) := fun c M' Φ hp hΦ => by
  obtain ⟨ext, rfl⟩ := hp
  cases h with
  | non => exact sent0 (ys := [pk c, .non]) mono_known ⟨c, [], .d .non, rfl, rfl, .non, rfl, _, rfl, hΦ _ _ ⟨rfl, rfl⟩⟩
  | frz pm => exact sent0 (ys := [pk c, dD (pkD pm)]) mono_known ⟨c, pm, .d _, rfl, rfl, .frz pm, rfl, _, rfl, hΦ _ _ ⟨rfl, rfl⟩⟩
  | @mm k _ hm => exact sent_dict (kvs := pkD pm) (by rw [List.getElem?_append_left (List.getElem?_eq_some_iff.mp hm).1]; exact hm) ⟨c, pm, .m 0, rfl, by rw [List.all_cons, isD_dM]; rfl, .mm rfl, rfl, _, rfl, hΦ _ _ ⟨rfl, rfl⟩⟩ mono_known
theorem tells_known {W : Hp} {μ : List Addr} {M : List MO} {pv : AV} {pm : Pm} {wsv : List V} (h : PkV M pv pm) (r : RAs K W μ [pv] wsv) : Tells K pk (spKn K wsv) W μ M (fun _ => True) (knB pm) := fun c hdm W1 μ1 M1 H1 v a b d s rv Q q => by
  obtain ⟨p, rfl, _⟩ := ra_one r
  exact ⟨v, p, rfl, rfl, Tells.of_knows (dom := fun _ => True) mono_known (knows_known h) r c hdm W1 μ1 M1 H1 v a b d s rv Q q⟩
end
local macro_rules | `(tactic| walk_at "alside") => `(tactic| first
  | decide
  | (dsimp only; decide)
  | exact Or.inr (by decide)
  | exact Or.inl (by decide)
  | (dsimp only; omega)
  | (unfold CDiv; omega)
  | (unfold CPow; omega)
  | (unfold CMul; omega)
  | assumption)
local macro_rules | `(tactic| walk_at "al1") => `(tactic| first
  | with_reducible refine as_asg ?_
  | with_reducible refine as_drop ?_
  | with_reducible refine as_ret ?_
  | with_reducible refine as_if ?_
  | with_reducible refine as_next ?_
  | with_reducible refine at_test ?_
  | with_reducible refine at_b ?_
  | with_reducible refine at_and ?_
  | with_reducible refine at_or ?_
  | with_reducible refine at_not ?_
  | with_reducible refine ae_op ?_
  | with_reducible refine ae_un ?_
  | with_reducible refine ae_cb ?_
  | with_reducible refine ae_if ?_
  | with_reducible refine ae_andV ?_
  | with_reducible refine ae_orV ?_
  | with_reducible refine ae_notV ?_
  | with_reducible refine ae_chain ?_
  | with_reducible refine ae_int ?_
  | with_reducible refine ae_bl ?_
  | with_reducible refine ae_non ?_
  | with_reducible refine ae_str ?_
  | with_reducible refine ae_ty ?_
  | with_reducible refine ae_adr ?_
  | with_reducible refine aa_nil ?_
  | with_reducible refine aa_cons ?_
  | with_reducible refine ag_name ?_
  | with_reducible refine ag_sub ?_
  | with_reducible refine at_yes ?_
  | ((with_reducible show AE _ _ (tVar _) _ _ _); refine ae_var rfl ?_)
  | ((with_reducible show AR _ _ (uAdd _) _ _ _ _); refine ur_addI ?_)
  | ((with_reducible show AR _ _ (uMul _) _ _ _ _); refine ur_mulI (by walk_at "alside") ?_)
  | ((with_reducible show AR _ _ (uEq _) _ _ _ _); first | refine ur_eqI ?_ | refine ur_eqS ?_ | refine ur_eqB ?_)
  | ((with_reducible show AR _ _ (uNe _) _ _ _ _); first | refine ur_neI ?_ | refine ur_neS ?_ | refine ur_neB ?_)
  | ((with_reducible show AR _ _ (rIx _) _ _ _ _); first | refine ur_ixM rfl rfl ?_ | refine ur_ixL rfl ?_ | refine ur_ixT rfl ?_ | refine ur_ixS rfl ?_)
  | ((with_reducible show AC _ _ (uLen _) _ _ _); first | refine uc_len (.tup _) ?_ | refine uc_len (.lst _) ?_ | refine uc_len (.scr _) ?_ | refine uc_len (.mm rfl) ?_)
  | ((with_reducible show AR _ _ (rI0 _) _ _ _ _); first | with_reducible refine ar_i0 ?_ | with_reducible refine ar_b0 ?_)
  | ((with_reducible show AU _ _ (rU _) _ _ _); with_reducible refine au_i ?_)
  | ((with_reducible show AR _ _ (rI _ _) _ _ _ _); refine ar_i (by walk_at "alside") ?_)
  | ((with_reducible show AR _ _ (rIxL _) _ _ _ _); first | refine ar_ixM rfl rfl ?_ | refine ar_ixL rfl ?_ | refine ar_ixS rfl ?_)
  | ((with_reducible show AR _ _ (rIxT _) _ _ _ _); refine ar_ixT rfl ?_)
  | ((with_reducible show AR _ _ rEq _ _ _ _); first | with_reducible refine ar_eqI ?_ | with_reducible refine ar_eqS ?_ | with_reducible refine ar_eqB ?_)
  | ((with_reducible show AR _ _ rNe _ _ _ _); first | with_reducible refine ar_neI ?_ | with_reducible refine ar_neS ?_ | with_reducible refine ar_neB ?_))
local macro_rules | `(tactic| walk_at "alds") => `(tactic| first
  | refine ⟨[], rfl, Nat.le_of_ble_eq_true rfl, ?_⟩
  | refine ⟨[_], rfl, Nat.le_of_ble_eq_true rfl, ?_⟩
  | refine ⟨[_, _], rfl, Nat.le_of_ble_eq_true rfl, ?_⟩
  | refine ⟨[_, _, _], rfl, Nat.le_of_ble_eq_true rfl, ?_⟩
  | refine ⟨[_, _, _, _], rfl, Nat.le_of_ble_eq_true rfl, ?_⟩
  | refine ⟨[_, _, _, _, _], rfl, Nat.le_of_ble_eq_true rfl, ?_⟩
  | refine ⟨[_, _, _, _, _, _], rfl, Nat.le_of_ble_eq_true rfl, ?_⟩
  | refine ⟨[_, _, _, _, _, _, _], rfl, Nat.le_of_ble_eq_true rfl, ?_⟩
  | refine ⟨[_, _, _, _, _, _, _, _], rfl, Nat.le_of_ble_eq_true rfl, ?_⟩
  | refine ⟨[_, _, _, _, _, _, _, _, _], rfl, Nat.le_of_ble_eq_true rfl, ?_⟩
  | refine ⟨[_, _, _, _, _, _, _, _, _, _], rfl, Nat.le_of_ble_eq_true rfl, ?_⟩
  | refine ⟨[_, _, _, _, _, _, _, _, _, _, _], rfl, Nat.le_of_ble_eq_true rfl, ?_⟩
  | refine ⟨[_, _, _, _, _, _, _, _, _, _, _, _], rfl, Nat.le_of_ble_eq_true rfl, ?_⟩)
local macro_rules | `(tactic| walk_at "alc") => `(tactic| refine ae_call0 (Ψ := fun _ _ => False) (by walk_at "almono") efits_none ?_)
local macro_rules | `(tactic| walk_at "al") => `(tactic| repeat (first | walk_at "al1" | with_reducible refine as_seq ?_ | with_reducible refine ae_tup ?_ | with_reducible walk_at "alc" | refine ⟨_, rfl, ?_⟩ | walk_at "alds" | refine ⟨_, _, _, _, _, rfl, rfl, rfl, rfl, rfl, ?_⟩))
local macro_rules | `(tactic| walk_at "alF") => `(tactic| repeat (first | walk_at "al1" | with_reducible refine as_seq ?_ | with_reducible refine ae_tup ?_ | with_reducible refine ae_lst ?_ | with_reducible walk_at "alc" | refine ⟨_, rfl, ?_⟩ | walk_at "alds" | refine ⟨_, _, _, _, _, rfl, rfl, rfl, rfl, rfl, ?_⟩))
local macro_rules | `(tactic| walk_at "alo") => `(tactic| repeat (first | walk_at "al1" | with_reducible refine ae_tup ?_ | with_reducible walk_at "alc" | refine ⟨_, rfl, ?_⟩ | walk_at "alds" | refine ⟨_, _, _, _, _, rfl, rfl, rfl, rfl, rfl, ?_⟩))
local macro_rules | `(tactic| walk_at "almono") => `(tactic| first | exact mono_from | exact mono_roomsH)
section
variable {P : Program} {w : World} {K : PySem.W.Frag} {mg : Str → Option Value} {base : Heap} {C_Room C_Web C_NoRoom C_NoBeat C_TooMany : Addr} {c Pt : Addr} {kws : List KwE}
def cellD : D → Cell | .key [.inl a, .inl b] => (a, b) | _ => (0, 0)
end
end Wd
namespace Wd
open PySem PySem.Spec PyProof.Rows L2 Al Gx Nd Dt Lm Cb NdefX
variable [Al.TabList]
/-- pokes within a web's rooms, at some beats -/
structure PkOk (rms : List Rm) (ts : List Int) (pm : Pm) : Prop where
  nd : (pm.map Prod.fst).Nodup
  rm : ∀ p ∈ pm, 0 ≤ p.1.1 ∧ p.1.1 < rms.length
  bt : ∀ p ∈ pm, p.1.2 ∈ ts
  st : ∀ p ∈ pm, 0 ≤ p.2 ∧ ∃ x, rms[p.1.1.toNat]? = some x ∧ p.2 < x.size
def putP (pm : Pm) (c : Cell) (v : Int) : Pm := if c ∈ pm.map Prod.fst then pm.map (fun p => if p.1 = c then (p.1, v) else p) else pm ++ [(c, v)]
theorem pkD_put (pm : Pm) (c : Cell) (v : Int) : putG (pkD pm) (key2 c) (.int v) = pkD (putP pm c v) := by
  have ea : ((pkD pm).any fun kv => decide (kv.1 = key2 c)) = decide (c ∈ pm.map Prod.fst) := by
    unfold pkD
    rw [List.any_map, Bool.eq_iff_iff, List.any_eq_true, decide_eq_true_iff, List.mem_map]
    constructor
    · rintro ⟨p, h1, h2⟩
      exact ⟨p, h1, key2_inj (of_decide_eq_true h2)⟩
    · rintro ⟨p, h1, h2⟩
      exact ⟨p, h1, by subst h2; exact decide_eq_true rfl⟩
  unfold putG putP
  rw [ea]
  by_cases h : c ∈ pm.map Prod.fst
  · rw [if_pos (decide_eq_true h), if_pos h]
    unfold pkD
    rw [List.map_map, List.map_map]
    refine List.map_congr_left fun p _ => ?_
    show (if key2 p.1 = key2 c then (key2 p.1, D.int v) else (key2 p.1, .int p.2)) = (key2 (if p.1 = c then (p.1, v) else p).1, .int (if p.1 = c then (p.1, v) else p).2)
    by_cases e : p.1 = c
    · rw [if_pos (by rw [e]), if_pos e]
    · rw [if_neg (fun z => e (key2_inj z)), if_neg e]
  · rw [if_neg (by rw [decide_eq_false h]; exact Bool.false_ne_true), if_neg h]
    unfold pkD
    rw [List.map_append]
    rfl
theorem putP_mem {pm : Pm} {c : Cell} {v : Int} {p : Cell × Int} (h : p ∈ putP pm c v) : p ∈ pm ∨ p = (c, v) := by
  unfold putP at h
  by_cases e : c ∈ pm.map Prod.fst
  · rw [if_pos e] at h
    obtain ⟨q, hq, rfl⟩ := List.mem_map.mp h
    by_cases z : q.1 = c
    · rw [if_pos z, z]; exact .inr rfl
    · rw [if_neg z]; exact .inl hq
  · rw [if_neg e] at h
    rcases List.mem_append.mp h with h | h
    · exact .inl h
    · exact .inr (List.mem_singleton.mp h)
theorem putP_len (pm : Pm) (c : Cell) (v : Int) : (putP pm c v).length ≤ pm.length + 1 := by
  unfold putP
  split
  · rw [List.length_map]; omega
  · rw [List.length_append]; exact Nat.le_refl _
theorem PkOk.put {rms : List Rm} {ts : List Int} {pm : Pm} {r b v : Int} {x : Rm} (h : PkOk rms ts pm) (h0 : 0 ≤ r) (h1 : r < rms.length) (hb : b ∈ ts) (hv : 0 ≤ v) (hx : rms[r.toNat]? = some x) (h2 : v < x.size) : PkOk rms ts (putP pm (r, b) v) := by
  refine ⟨?_, fun p hp => ?_, fun p hp => ?_, fun p hp => ?_⟩
  · unfold putP
    by_cases e : (r, b) ∈ pm.map Prod.fst
    · rw [if_pos e, List.map_map, show (Prod.fst ∘ fun p : Cell × Int => if p.1 = (r, b) then (p.1, v) else p) = Prod.fst from funext fun p => by
        show (if p.1 = (r, b) then (p.1, v) else p).1 = p.1
        split <;> rfl]
      exact h.nd
    · rw [if_neg e, List.map_append]
      refine List.nodup_append.mpr ⟨h.nd, by simp, fun a ha b' hb' q => e ?_⟩
      rw [List.map_cons, List.map_nil, List.mem_singleton] at hb'
      rw [show (r, b) = b' from hb'.symm, ← q]; exact ha
  · rcases putP_mem hp with hp | rfl
    · exact h.rm p hp
    · exact ⟨h0, h1⟩
  · rcases putP_mem hp with hp | rfl
    · exact h.bt p hp
    · exact hb
  · rcases putP_mem hp with hp | rfl
    · exact h.st p hp
    · exact ⟨hv, x, hx, h2⟩
def aPokes : ASp := fun xs M Φ _ => ∃ (g x c m v : Int) (rms : List Rm) (ts : List Int) (k : Nat), xs = [.m 0, .d (.lst (rms.map Rm.t)), .d (.lst (ts.map D.int)), .d (.int k)] ∧ M = [bag g x c] ∧ Rms rms m v ∧ m ≤ 12 ∧ v ≤ 60 ∧ 0 < ts.length ∧ ts.length ≤ 100000 ∧ k ≤ 1000 ∧
  ∀ (pm : Pm) (g' x' c' : Int), PkOk rms ts pm → pm.length ≤ k → Φ (.d (dD (pkD pm))) [bag g' x' c']
theorem mono_pokes : Mono aPokes := fun xs M Φ Φ' Ψ Ψ' h1 _ ⟨g, x, c, m, v, rms, ts, k, e1, e2, e3, e4, e5, e6, e7, e8, p⟩ => ⟨g, x, c, m, v, rms, ts, k, e1, e2, e3, e4, e5, e6, e7, e8, fun a b d e f i => h1 _ _ (p a b d e f i)⟩
theorem rm_at {rms : List Rm} {r : Int} (h0 : 0 ≤ r) (h : r < rms.length) : ∃ x, rms[r.toNat]? = some x ∧ x ∈ rms ∧ atI (rms.map Rm.t) r = some x.t := by
  have hl : r.toNat < rms.length := by omega
  refine ⟨rms[r.toNat], List.getElem?_eq_getElem hl, List.getElem_mem hl, ?_⟩
  unfold atI ixN
  rw [List.length_map, if_pos h0, if_pos h, Option.bind_some, List.getElem?_map, List.getElem?_eq_getElem hl]
  rfl
theorem int_at2 {ts : List Int} {r : Int} (h0 : 0 ≤ r) (h : r < ts.length) : ∃ t, t ∈ ts ∧ atI (ts.map D.int) r = some (.int t) := by
  have hl : r.toNat < ts.length := by omega
  refine ⟨ts[r.toNat], List.getElem_mem hl, ?_⟩
  unfold atI ixN
  rw [List.length_map, if_pos h0, if_pos h, Option.bind_some, List.getElem?_map, List.getElem?_eq_getElem hl]
  rfl
end Wd
namespace Al
open PySem PyProof.Rows L2 Gx
variable [Al.TabList]
/-- rows that may change -/
inductive LL (M : List MO) : AV → List (List Int) → Prop
  | m {k : Nat} {js : List Nat} {rows : List (List Int)} (h : M[k]? = some (.ls (js.map AV.m))) (hl : js.length = rows.length) (hj : ∀ (i j : Nat) (r : List Int), js[i]? = some j → rows[i]? = some r → M[j]? = some (.lst (r.map D.int))) : LL M (.m k) rows
theorem LL.row {M : List MO} {k : Nat} {rows : List (List Int)} (h : LL M (.m k) rows) {i : Nat} {r : List Int} (hr : rows[i]? = some r) : ∃ l j, M[k]? = some (.ls l) ∧ atI l (i : Int) = some (.m j) ∧ M[j]? = some (.lst (r.map D.int)) := by
  cases h with
  | @m _ js _ h hl hj =>
    have hlt := (List.getElem?_eq_some_iff.mp hr).1
    have hji : js[i]? = some (js[i]'(by omega)) := List.getElem?_eq_getElem _
    refine ⟨_, _, h, ?_, hj i _ r hji hr⟩
    unfold atI ixN
    rw [List.length_map, if_pos (by omega), if_pos (by omega), Option.bind_some, List.getElem?_map, Int.toNat_natCast, hji]
    rfl
def rowsP (rows : List (List Int)) : PyData := .list (rows.map fun r => .list (toPs (r.map D.int)))
section
variable {B : Base} {K : PySem.W.Frag} {σ : AEnv} {M : List MO} {x y : AV} {te : TE} {tl th : TO} {Φ : AV → List MO → Prop} {W H : Hp} {μ : List Addr}
theorem LL.run {rows : List (List Int)} {v : V} (h : LL M x rows) (s : Sim K W μ M H) (r : RA K W μ x v) : Dp K H v (rowsP rows) := by
  cases h with
  | @m k js rows h hl hj =>
    obtain ⟨a, ha, rfl⟩ := r
    obtain ⟨vs, h1, h2⟩ := s.ob k a _ ha h
    refine .lst (SqL.of h1) ?_
    have go : ∀ (js : List Nat) (rows : List (List Int)) (vs : List V), js.length = rows.length → RAs K W μ (js.map AV.m) vs → (∀ (i j : Nat) (r : List Int), js[i]? = some j → rows[i]? = some r → M[j]? = some (.lst (r.map D.int))) → DpAll K H vs (rows.map fun r => PyData.list (toPs (r.map D.int))) := by
      intro js
      induction js with
      | nil =>
        intro rows vs hl hr _
        cases rows with
        | nil => cases hr; exact .nil
        | cons _ _ => cases hl
      | cons j js ih =>
        intro rows vs hl hr hall
        cases rows with
        | nil => cases hl
        | cons r rows =>
          obtain ⟨v, t, rfl, h3, h4⟩ := hr
          obtain ⟨b, hb, rfl⟩ := h3
          obtain ⟨us, u1, u2⟩ := s.ob j b _ hb (hall 0 j r rfl rfl)
          exact .cons (.lst (SqL.of u1) (dps_of s.sub (pures_ints r) u2)) (ih rows t (by simpa using hl) h4 fun i j' r' q1 q2 => hall (i + 1) j' r' (by simpa using q1) (by simpa using q2))
    exact go js rows vs hl h2 hj
theorem RAs.take : ∀ {l : List AV} {vs : List V} (i : Nat), RAs K W μ l vs → RAs K W μ (l.take i) (vs.take i)
  | [], _, _, q => by cases q; simp [RAs]
  | x :: l, _, 0, ⟨y, r, e1, a, t⟩ => by subst e1; exact rfl
  | x :: l, _, i + 1, ⟨y, r, e1, a, t⟩ => by subst e1; exact ⟨y, _, rfl, a, RAs.take i t⟩
theorem RAs.drop : ∀ {l : List AV} {vs : List V} (i : Nat), RAs K W μ l vs → RAs K W μ (l.drop i) (vs.drop i)
  | [], _, _, q => by cases q; simp [RAs]
  | x :: l, _, 0, ⟨y, r, e1, a, t⟩ => by subst e1; exact ⟨y, _, rfl, a, t⟩
  | x :: l, _, i + 1, ⟨y, r, e1, a, t⟩ => by subst e1; exact RAs.drop i t
theorem RAs.cut {l : List AV} {vs : List V} (h : RAs K W μ l vs) (lo hi : Option Int) : RAs K W μ (cutL l lo hi) (cutV vs lo hi) := by
  unfold cutL cutV
  rw [h.length]
  exact RAs.take _ (RAs.drop _ h)
theorem LL.cut {k : Nat} {rows : List (List Int)} {r : List MO} (h : LL M (.m k) rows) (n : Nat) : ∃ l, M[k]? = some (.ls l) ∧ LL (M ++ (.ls (l.take n) :: r)) (.m M.length) (rows.take n) := by
  cases h with
  | @m _ js _ h hl hj =>
    refine ⟨_, h, .m (js := js.take n) (by rw [List.getElem?_append_right (Nat.le_refl _), Nat.sub_self, List.map_take]; rfl) (by rw [List.length_take, List.length_take, hl]) fun i j r h1 h2 => ?_⟩
    rw [List.getElem?_take] at h1 h2
    by_cases hi : i < n
    · rw [if_pos hi] at h1 h2
      have := hj i j r h1 h2
      rw [List.getElem?_append_left (List.getElem?_eq_some_iff.mp this).1]
      exact this
    · rw [if_neg hi] at h1; cases h1
end
end Al
namespace Al
open PySem PyProof.Rows
open L2 hiding putK
variable [Al.TabList]
theorem renO_isD {n : Nat} {ks : List Nat} {o : MO} (h : o.isD = true) : renO n ks o = o := by
  have al : ∀ l : List AV, l.all AV.isD = true → l.map (renV n ks) = l := fun l hl => by
    conv => rhs; rw [← List.map_id l]
    refine List.map_congr_left fun x hx => ?_
    have := List.all_eq_true.mp hl x hx
    cases x with
    | d y => rfl
    | m k => cases this
  cases o with
  | lst l => rfl
  | ins C ns l => exact congrArg (MO.ins C ns) (al l h)
  | ls l => exact congrArg MO.ls (al l h)
  | dT ds l => exact congrArg (MO.dT ds) (al l h)
  | dK ds l => exact congrArg (MO.dK ds) (al l h)
end Al
namespace Wd
open PySem PyProof.Rows L2 Al Gx
variable [Al.TabList]
def E0 : XK := fun _ _ _ => False
local macro_rules | `(tactic| walk_at "alside") => `(tactic| first
  | decide
  | (dsimp only; decide)
  | exact Or.inr (by decide)
  | exact Or.inl (by decide)
  | (dsimp only; omega)
  | (unfold CDiv; omega)
  | (unfold CPow; omega)
  | (unfold CMul; omega)
  | assumption)
local macro_rules | `(tactic| walk_at "al1") => `(tactic| first
  | with_reducible refine as_asg ?_
  | with_reducible refine as_drop ?_
  | with_reducible refine as_ret ?_
  | with_reducible refine as_if ?_
  | with_reducible refine as_next ?_
  | with_reducible refine at_test ?_
  | with_reducible refine at_b ?_
  | with_reducible refine at_and ?_
  | with_reducible refine at_or ?_
  | with_reducible refine at_not ?_
  | with_reducible refine ae_op ?_
  | with_reducible refine ae_un ?_
  | with_reducible refine ae_cb ?_
  | with_reducible refine ae_if ?_
  | with_reducible refine ae_andV ?_
  | with_reducible refine ae_orV ?_
  | with_reducible refine ae_notV ?_
  | with_reducible refine ae_chain ?_
  | with_reducible refine ae_int ?_
  | with_reducible refine ae_bl ?_
  | with_reducible refine ae_non ?_
  | with_reducible refine ae_str ?_
  | with_reducible refine ae_ty ?_
  | with_reducible refine ae_adr ?_
  | with_reducible refine aa_nil ?_
  | with_reducible refine aa_cons ?_
  | with_reducible refine ag_name ?_
  | with_reducible refine ag_sub ?_
  | with_reducible refine at_yes ?_
  | ((with_reducible show AE _ _ (tVar _) _ _ _); refine ae_var rfl ?_)
  | ((with_reducible show AR _ _ (uAdd _) _ _ _ _); refine ur_addI ?_)
  | ((with_reducible show AR _ _ (uMul _) _ _ _ _); refine ur_mulI (by walk_at "alside") ?_)
  | ((with_reducible show AR _ _ (uEq _) _ _ _ _); first | refine ur_eqI ?_ | refine ur_eqS ?_ | refine ur_eqB ?_)
  | ((with_reducible show AR _ _ (uNe _) _ _ _ _); first | refine ur_neI ?_ | refine ur_neS ?_ | refine ur_neB ?_)
  | ((with_reducible show AR _ _ (rIx _) _ _ _ _); first | refine ur_ixM rfl rfl ?_ | refine ur_ixL rfl ?_ | refine ur_ixT rfl ?_ | refine ur_ixS rfl ?_)
  | ((with_reducible show AC _ _ (uLen _) _ _ _); first | refine uc_len (.tup _) ?_ | refine uc_len (.lst _) ?_ | refine uc_len (.scr _) ?_ | refine uc_len (.mm rfl) ?_)
  | ((with_reducible show AR _ _ (rI0 _) _ _ _ _); first | with_reducible refine ar_i0 ?_ | with_reducible refine ar_b0 ?_)
  | ((with_reducible show AU _ _ (rU _) _ _ _); with_reducible refine au_i ?_)
  | ((with_reducible show AR _ _ (rI _ _) _ _ _ _); refine ar_i (by walk_at "alside") ?_)
  | ((with_reducible show AR _ _ (rIxL _) _ _ _ _); first | refine ar_ixM rfl rfl ?_ | refine ar_ixL rfl ?_ | refine ar_ixS rfl ?_)
  | ((with_reducible show AR _ _ (rIxT _) _ _ _ _); refine ar_ixT rfl ?_)
  | ((with_reducible show AR _ _ rEq _ _ _ _); first | with_reducible refine ar_eqI ?_ | with_reducible refine ar_eqS ?_ | with_reducible refine ar_eqB ?_)
  | ((with_reducible show AR _ _ rNe _ _ _ _); first | with_reducible refine ar_neI ?_ | with_reducible refine ar_neS ?_ | with_reducible refine ar_neB ?_))
local macro_rules | `(tactic| walk_at "alds") => `(tactic| first
  | refine ⟨[], rfl, Nat.le_of_ble_eq_true rfl, ?_⟩
  | refine ⟨[_], rfl, Nat.le_of_ble_eq_true rfl, ?_⟩
  | refine ⟨[_, _], rfl, Nat.le_of_ble_eq_true rfl, ?_⟩
  | refine ⟨[_, _, _], rfl, Nat.le_of_ble_eq_true rfl, ?_⟩
  | refine ⟨[_, _, _, _], rfl, Nat.le_of_ble_eq_true rfl, ?_⟩
  | refine ⟨[_, _, _, _, _], rfl, Nat.le_of_ble_eq_true rfl, ?_⟩
  | refine ⟨[_, _, _, _, _, _], rfl, Nat.le_of_ble_eq_true rfl, ?_⟩
  | refine ⟨[_, _, _, _, _, _, _], rfl, Nat.le_of_ble_eq_true rfl, ?_⟩
  | refine ⟨[_, _, _, _, _, _, _, _], rfl, Nat.le_of_ble_eq_true rfl, ?_⟩
  | refine ⟨[_, _, _, _, _, _, _, _, _], rfl, Nat.le_of_ble_eq_true rfl, ?_⟩
  | refine ⟨[_, _, _, _, _, _, _, _, _, _], rfl, Nat.le_of_ble_eq_true rfl, ?_⟩
  | refine ⟨[_, _, _, _, _, _, _, _, _, _, _], rfl, Nat.le_of_ble_eq_true rfl, ?_⟩
  | refine ⟨[_, _, _, _, _, _, _, _, _, _, _, _], rfl, Nat.le_of_ble_eq_true rfl, ?_⟩)
local macro_rules | `(tactic| walk_at "alc") => `(tactic| refine ae_call0 (Ψ := fun _ _ => False) (by walk_at "almono") efits_none ?_)
local macro_rules | `(tactic| walk_at "al") => `(tactic| repeat (first | walk_at "al1" | with_reducible refine as_seq ?_ | with_reducible refine ae_tup ?_ | with_reducible walk_at "alc" | refine ⟨_, rfl, ?_⟩ | walk_at "alds" | refine ⟨_, _, _, _, _, rfl, rfl, rfl, rfl, rfl, ?_⟩))
local macro_rules | `(tactic| walk_at "alF") => `(tactic| repeat (first | walk_at "al1" | with_reducible refine as_seq ?_ | with_reducible refine ae_tup ?_ | with_reducible refine ae_lst ?_ | with_reducible walk_at "alc" | refine ⟨_, rfl, ?_⟩ | walk_at "alds" | refine ⟨_, _, _, _, _, rfl, rfl, rfl, rfl, rfl, ?_⟩))
local macro_rules | `(tactic| walk_at "alo") => `(tactic| repeat (first | walk_at "al1" | with_reducible refine ae_tup ?_ | with_reducible walk_at "alc" | refine ⟨_, rfl, ?_⟩ | walk_at "alds" | refine ⟨_, _, _, _, _, rfl, rfl, rfl, rfl, rfl, ?_⟩))
end Wd
namespace Wd
open PySem PySem.Spec PyProof.Rows L2 Al Gx Nd Dt Lm Cb NdefX
variable [Al.TabList]
theorem sc__law_needs : FnScope ["_law_rooms_here", "_law_put", "_law_cells", "_law_found", "_law_waiting", "_law_run", "_law_high", "_law_heard"] ["_law_rooms_here", "_law_put", "_law_cells"] (defScope (top 31)) := ⟨rfl, rfl, rfl, by decide +kernel, rfl, by decide +kernel, by decide +kernel⟩
/-- the dict may change; few cells are needed -/
def aNeedsG : ASp := fun xs M Φ _ => ∃ (rms : List Rm) (m v : Int) (pm : Pm) (cells bx : List Cell), xs = [.d (.lst (rms.map Rm.t)), .m 0, .d (.lst (cells.map pk))] ∧ M = [dM (pkD pm)] ∧ Rms rms m v ∧ m ≤ 12 ∧ bx.length ≤ 12 * 1001 ∧ cells.length ≤ 1000 ∧
  (∀ c, NeedC (ears (rms.map Rm.rd)) (knB pm) cells c → c ∈ bx ∧ (0 ≤ c.1 ∧ c.1 < rms.length) ∧ 0 ≤ c.2) ∧ ∀ out run : List Cell, SortedP out → out.Nodup → (∀ c, c ∈ out ↔ NeedC (ears (rms.map Rm.rd)) (knB pm) cells c) → SortedP run → run.Nodup → (∀ c, c ∈ run ↔ NeedC (ears (rms.map Rm.rd)) (knB pm) cells c ∧ knB pm c = false) →
    Φ (.d (.tup [.lst (out.map pk), .lst (run.map pk)])) [dM (pkD pm)]
theorem mono_needsG : Mono aNeedsG := fun xs M Φ Φ' Ψ Ψ' h1 _ ⟨rms, m, v, pm, cells, bx, e1, e2, e3, e4, e5, e6, e7, p⟩ => ⟨rms, m, v, pm, cells, bx, e1, e2, e3, e4, e5, e6, e7, fun a b c d e f g i => h1 _ _ (p a b c d e f g i)⟩
theorem ears_rmsG {rms : List Rm} {r : Int} {x : Rm} (h : rms[r.toNat]? = some x) : ears (rms.map Rm.rd) r = x.ears := by
  unfold ears
  rw [List.getElem?_map, h]
  show (x.ears.map D.int).map toI = x.ears
  exact toI_map x.ears
theorem isD_set {M : List MO} {k : Nat} {o : MO} (h : M.all MO.isD = true) (ho : o.isD = true) : (M.set k o).all MO.isD = true :=
  List.all_eq_true.mpr fun x hx => (List.mem_or_eq_of_mem_set hx).elim (List.all_eq_true.mp h x) fun e => e ▸ ho
theorem get_set {M : List MO} {k : Nat} {a b : MO} (h : M[k]? = some a) : (M.set k b)[k]? = some b := by
  rw [List.getElem?_set_self]
  exact (List.getElem?_eq_some_iff.mp h).1
theorem get_ne {M : List MO} {j k : Nat} {a b : MO} (hn : j ≠ k) (h : M[k]? = some a) : (M.set j b)[k]? = some a := by rw [List.getElem?_set_ne hn]; exact h
theorem get_app {M r : List MO} {k : Nat} {a : MO} (h : M[k]? = some a) : (M ++ r)[k]? = some a := by
  rw [List.getElem?_append_left (List.getElem?_eq_some_iff.mp h).1]; exact h
theorem get_end {M : List MO} {a : MO} : (M ++ [a])[M.length]? = some a := by rw [List.getElem?_append_right (Nat.le_refl _), Nat.sub_self]; rfl
theorem rt_keep9 {kvs : KD} {M : List MO} {d : D} {Φ : AV → List MO → Prop} (hD : M.all MO.isD = true) (h0 : M[0]? = some (dM kvs)) (h : Φ (.d d) [dM kvs]) : RT 1 Φ (.d d) M := by
  cases M with
  | nil => cases h0
  | cons o M =>
    rw [List.getElem?_cons_zero] at h0
    cases h0
    exact rt_preC (M := [dM kvs]) (r := M) (fun o ho => by rw [List.mem_singleton.mp ho]; exact below_isD (isD_dM _)) h
local macro_rules | `(tactic| walk_at "alside") => `(tactic| first
  | decide
  | (dsimp only; decide)
  | exact Or.inr (by decide)
  | exact Or.inl (by decide)
  | (dsimp only; omega)
  | (unfold CDiv; omega)
  | (unfold CPow; omega)
  | (unfold CMul; omega)
  | assumption)
local macro_rules | `(tactic| walk_at "al1") => `(tactic| first
  | with_reducible refine as_asg ?_
  | with_reducible refine as_drop ?_
  | with_reducible refine as_ret ?_
  | with_reducible refine as_if ?_
  | with_reducible refine as_next ?_
  | with_reducible refine at_test ?_
  | with_reducible refine at_b ?_
  | with_reducible refine at_and ?_
  | with_reducible refine at_or ?_
  | with_reducible refine at_not ?_
  | with_reducible refine ae_op ?_
  | with_reducible refine ae_un ?_
  | with_reducible refine ae_cb ?_
  | with_reducible refine ae_if ?_
  | with_reducible refine ae_andV ?_
  | with_reducible refine ae_orV ?_
  | with_reducible refine ae_notV ?_
  | with_reducible refine ae_chain ?_
  | with_reducible refine ae_int ?_
  | with_reducible refine ae_bl ?_
  | with_reducible refine ae_non ?_
  | with_reducible refine ae_str ?_
  | with_reducible refine ae_ty ?_
  | with_reducible refine ae_adr ?_
  | with_reducible refine aa_nil ?_
  | with_reducible refine aa_cons ?_
  | with_reducible refine ag_name ?_
  | with_reducible refine ag_sub ?_
  | with_reducible refine at_yes ?_
  | ((with_reducible show AE _ _ (tVar _) _ _ _); refine ae_var rfl ?_)
  | ((with_reducible show AR _ _ (uAdd _) _ _ _ _); refine ur_addI ?_)
  | ((with_reducible show AR _ _ (uMul _) _ _ _ _); refine ur_mulI (by walk_at "alside") ?_)
  | ((with_reducible show AR _ _ (uEq _) _ _ _ _); first | refine ur_eqI ?_ | refine ur_eqS ?_ | refine ur_eqB ?_)
  | ((with_reducible show AR _ _ (uNe _) _ _ _ _); first | refine ur_neI ?_ | refine ur_neS ?_ | refine ur_neB ?_)
  | ((with_reducible show AR _ _ (rIx _) _ _ _ _); first | refine ur_ixM rfl rfl ?_ | refine ur_ixL rfl ?_ | refine ur_ixT rfl ?_ | refine ur_ixS rfl ?_)
  | ((with_reducible show AC _ _ (uLen _) _ _ _); first | refine uc_len (.tup _) ?_ | refine uc_len (.lst _) ?_ | refine uc_len (.scr _) ?_ | refine uc_len (.mm rfl) ?_)
  | ((with_reducible show AR _ _ (rI0 _) _ _ _ _); first | with_reducible refine ar_i0 ?_ | with_reducible refine ar_b0 ?_)
  | ((with_reducible show AU _ _ (rU _) _ _ _); with_reducible refine au_i ?_)
  | ((with_reducible show AR _ _ (rI _ _) _ _ _ _); refine ar_i (by walk_at "alside") ?_)
  | ((with_reducible show AR _ _ (rIxL _) _ _ _ _); first | refine ar_ixM rfl rfl ?_ | refine ar_ixL rfl ?_ | refine ar_ixS rfl ?_)
  | ((with_reducible show AR _ _ (rIxT _) _ _ _ _); refine ar_ixT rfl ?_)
  | ((with_reducible show AR _ _ rEq _ _ _ _); first | with_reducible refine ar_eqI ?_ | with_reducible refine ar_eqS ?_ | with_reducible refine ar_eqB ?_)
  | ((with_reducible show AR _ _ rNe _ _ _ _); first | with_reducible refine ar_neI ?_ | with_reducible refine ar_neS ?_ | with_reducible refine ar_neB ?_))
local macro_rules | `(tactic| walk_at "alds") => `(tactic| first
  | refine ⟨[], rfl, Nat.le_of_ble_eq_true rfl, ?_⟩
  | refine ⟨[_], rfl, Nat.le_of_ble_eq_true rfl, ?_⟩
  | refine ⟨[_, _], rfl, Nat.le_of_ble_eq_true rfl, ?_⟩
  | refine ⟨[_, _, _], rfl, Nat.le_of_ble_eq_true rfl, ?_⟩
  | refine ⟨[_, _, _, _], rfl, Nat.le_of_ble_eq_true rfl, ?_⟩
  | refine ⟨[_, _, _, _, _], rfl, Nat.le_of_ble_eq_true rfl, ?_⟩
  | refine ⟨[_, _, _, _, _, _], rfl, Nat.le_of_ble_eq_true rfl, ?_⟩
  | refine ⟨[_, _, _, _, _, _, _], rfl, Nat.le_of_ble_eq_true rfl, ?_⟩
  | refine ⟨[_, _, _, _, _, _, _, _], rfl, Nat.le_of_ble_eq_true rfl, ?_⟩
  | refine ⟨[_, _, _, _, _, _, _, _, _], rfl, Nat.le_of_ble_eq_true rfl, ?_⟩
  | refine ⟨[_, _, _, _, _, _, _, _, _, _], rfl, Nat.le_of_ble_eq_true rfl, ?_⟩
  | refine ⟨[_, _, _, _, _, _, _, _, _, _, _], rfl, Nat.le_of_ble_eq_true rfl, ?_⟩
  | refine ⟨[_, _, _, _, _, _, _, _, _, _, _, _], rfl, Nat.le_of_ble_eq_true rfl, ?_⟩)
local macro_rules | `(tactic| walk_at "alc") => `(tactic| refine ae_call0 (Ψ := fun _ _ => False) (by walk_at "almono") efits_none ?_)
local macro_rules | `(tactic| walk_at "al") => `(tactic| repeat (first | walk_at "al1" | with_reducible refine as_seq ?_ | with_reducible refine ae_tup ?_ | with_reducible walk_at "alc" | refine ⟨_, rfl, ?_⟩ | walk_at "alds" | refine ⟨_, _, _, _, _, rfl, rfl, rfl, rfl, rfl, ?_⟩))
local macro_rules | `(tactic| walk_at "alF") => `(tactic| repeat (first | walk_at "al1" | with_reducible refine as_seq ?_ | with_reducible refine ae_tup ?_ | with_reducible refine ae_lst ?_ | with_reducible walk_at "alc" | refine ⟨_, rfl, ?_⟩ | walk_at "alds" | refine ⟨_, _, _, _, _, rfl, rfl, rfl, rfl, rfl, ?_⟩))
local macro_rules | `(tactic| walk_at "alo") => `(tactic| repeat (first | walk_at "al1" | with_reducible refine ae_tup ?_ | with_reducible walk_at "alc" | refine ⟨_, rfl, ?_⟩ | walk_at "alds" | refine ⟨_, _, _, _, _, rfl, rfl, rfl, rfl, rfl, ?_⟩))
local macro_rules | `(tactic| walk_at "almono") => `(tactic| first | exact mono_take | exact mono_unlike)
section
variable {P : Program} {w : World} {K : PySem.W.Frag} {mg : Str → Option Value} {base : Heap}
theorem ok_needsG (DD : DefAt K mg "_law_needs" (top 31) ["_law_rooms_here", "_law_put", "_law_cells"]) (T : Bt mg) : FnAt P w K mg base CX0 3 "_law_needs" ["_law_rooms_here", "_law_put", "_law_cells"] aNeedsG := by
  refine fnat DD sc__law_needs (fun xs M Φ Ψ h => ?_) (fun f cdv A outer s H E hr => ⟨_, (pss_cons (ps_par3 (i := 3) (j := 4) (l := 5) rfl sc__law_needs.nd rfl rfl rfl (by decide) (by decide) (by decide) rfl rfl rfl (pa_cons pe_dnewT (pa_cons (pe_callTy (k_listOf K) (by rfl) T.list (by decide +kernel) (pa_cons (pv 2) pa_nil)) (pa_cons (pe_lst pa_nil) pa_nil))) rfl) (pss_cons (ps_while PassesOwn.never (pt_cmpR (k_ne K hr.units) (pv 4) (pe_lst pa_nil) (nomark _)) (pss_cons (ps_set (i := 6) sc__law_needs.nd rfl (Or.inr rfl) (pe_bm0K K PySem.F.plainAttrs_list PySem.F.slot_list_pop PySem.F.type_list_pop mt_pop (pv 4))) (pss_one (ps_if (pt_cmpR (k_notInD hr.units) (pv 6) (pv 3) (by rfl)) (pss_cons (ps_asg pe_bl (pg_sub (pv 3) (pv 6) (k_setD hr.units))) (pss_one (ps_if (PW.pt (pw_and (pt_cmpR (k_notInD hr.units) (pv 6) (pv 1) (by rfl)) (pw_and1 (pt_cmpR op_gt (pe_ix (k_ix K) (pv 6) pe_int (fun _ _ => rfl)) pe_int (nomark _))))) (pss_cons (ps_expr (pe_bmK K PySem.F.plainAttrs_list PySem.F.slot_list_append PySem.F.type_list_append mt_append (pv 5) (pa_cons (pv 6) pa_nil))) (pss_one (ps_set (i := 4) sc__law_needs.nd rfl (Or.inl rfl) (pe_op (k_add K) (pv 4) (pe_lc (own := [("_law_heard", 7)]) rfl sc__law_needs.nd (pi_seqK K (by exact (pe_ix (k_ix K) (pe_ix (k_ix K) (pv 0) (pe_ix (k_ix K) (pv 6) pe_int (fun _ _ => rfl)) (fun _ _ => rfl)) pe_int (fun _ _ => rfl)))) (blkOk_by (own := [("_law_heard", 7)]) (N := ["_law_rooms_here", "_law_put", "_law_cells", "_law_found", "_law_waiting", "_law_run", "_law_high", "_law_heard"]) (sc := defScope (top 31)) (by decide +kernel)) (fun _ _ _ _ _ => by exact (pg_name (i := 7) sc__law_needs.nd rfl (Or.inl rfl))) (fun _ _ _ _ _ => by exact pts_nil) (fun _ _ _ _ _ => by exact (pe_tup (pa_cons (pv 7) (pa_cons (pe_op op_sub (pe_ix (k_ix K) (pv 6) pe_int (fun _ _ => rfl)) pe_int) pa_nil))))))))) pss_nil))) pss_nil)))) (pss_one (ps_ret (pe_tup (pa_cons (pe_callB (k_sortedP K rfl) (by rfl) T.sorted (by decide +kernel) (pa_cons (pv 3) pa_nil)) (pa_cons (pe_callB (k_sortedP K rfl) (by rfl) T.sorted (by decide +kernel) (pa_cons (pv 5) pa_nil)) pa_nil))))))), fun B xs M Φ Ψ hB h => ?_⟩)
  · obtain ⟨rms, m, v, pm, cells, bx, rfl, _⟩ := h
    rfl
  · obtain ⟨rms, m, v, pm, cells, bx, rfl, rfl, hrm, hm, hT, hcl, hc, p⟩ := h
    have hn1 := hrm.n1
    have hnm := hrm.nm
    have hh := heard_ok hrm
    have hei : ∀ k j, j ∈ ears (rms.map Rm.rd) k → 0 ≤ j ∧ j < rms.length := fun k j hj => by
      have := (ears_in hh (k := k)).1 j hj
      rw [List.length_map] at this
      exact this
    generalize hN : bx.length = N at hT
    have hN2 : N ≤ 12 * 1001 := hT
    have few : ∀ {fs : List Cell}, fs.Nodup → (∀ c ∈ fs, NeedC (ears (rms.map Rm.rd)) (knB pm) cells c) → fs.length ≤ N := fun {fs} nd hf => by
      rw [← hN]
      exact nodup_le nd fun c h => (hc c (hf c h)).1
    refine as_seq <| as_par3 <| aa_cons <| ae_newD <| aa_cons <| ae_cb <| aa_cons <| ae_var rfl <| aa_nil <| uc_listM (.lst _) <| aa_cons <| ae_lstM <| aa_nil ⟨[], rfl, Nat.zero_le _, aa_nil ⟨_, _, _, rfl, ?_⟩⟩
    refine as_seq (as_whileG (fun m σ' M' => ∃ (fs ws : List Cell) (k : Nat) (a6 a7 : Option AV), σ' = [some (.d (.lst (rms.map Rm.t))), some (.m 0), some (.d (.lst (cells.map pk))), some (.m 1), some (.m k), some (.m 3), a6, a7] ∧ 1 ≠ k ∧ 3 ≠ k ∧ 0 ≠ k ∧
        M'[0]? = some (dM (pkD pm)) ∧
        M'[1]? = some (dM (fD (.bl true) fs)) ∧ M'[k]? = some (.lst (ws.map pk)) ∧ M'[3]? = some (.lst ((fs.filter fun c => !knB pm c).map pk)) ∧ M'.all MO.isD = true ∧ PileI (ears (rms.map Rm.rd)) (knB pm) cells fs ws ∧ ws.length ≤ cells.length + 3 * fs.length ∧ m = 4 * (N - fs.length) + ws.length)
      (4 * (N - 0) + cells.length) ⟨[], cells, 2, none, none, rfl, by decide, by decide, by decide, rfl, rfl, rfl, rfl, by show ([dM (pkD pm), dM [], MO.lst (cells.map pk), MO.lst []]).all MO.isD = true; rw [List.all_cons, List.all_cons, isD_dM, isD_dM]; rfl, ⟨List.nodup_nil, by simp, fun c h => .base h, fun c h => .inr h, by simp⟩, by simp, rfl⟩ fun m σ' M' hi => ?_)
    obtain ⟨fs, ws, k, a6, a7, rfl, hk0, hk2, hk9, g9, g0, gk, g2, hD, hw, hwl, rfl⟩ := hi
    refine at_test <| ae_op <| ae_var rfl <| ae_lst <| aa_nil ⟨[], rfl, Nat.zero_le _, ur_neLP (.m gk) (.d []) ⟨_, rfl, iteB (fun hne => ?_) fun hne => ?_⟩⟩
    · have hne : ws ≠ [] := by simpa using hne
      obtain ⟨ws0, c, rfl⟩ : ∃ ws0 c, ws = ws0 ++ [c] := ⟨ws.dropLast, ws.getLast hne, (List.dropLast_concat_getLast hne).symm⟩
      have hcn := hw.nw c (by simp)
      obtain ⟨_, ⟨c0, c1⟩, c2⟩ := hc c hcn
      rw [List.length_append, List.length_singleton] at hwl
      refine as_seq <| as_asgN <| ae_pop <| ae_var rfl ⟨k, _, pk c, rfl, gk, by simp, ?_⟩
      rw [show ((ws0 ++ [c]).map pk).dropLast = ws0.map pk from by simp]
      have g0 := get_ne (b := .lst (ws0.map pk)) (Ne.symm hk0) g0
      have g9 := get_ne (b := .lst (ws0.map pk)) (Ne.symm hk9) g9
      have g2 := get_ne (b := .lst (ws0.map pk)) (Ne.symm hk2) g2
      have gk := get_set (b := .lst (ws0.map pk)) gk
      have hD := isD_set (k := k) hD (show (MO.lst (ws0.map pk)).isD = true from rfl)
      generalize M'.set k (.lst (ws0.map pk)) = M1 at g9 g0 g2 gk hD
      refine as_if <| at_test <| ae_op <| ae_var rfl <| ae_var rfl <| ar_inF2 (neg := true) g0 ⟨_, rfl, fun hf => ?_, fun hf => ?_⟩
      · have hf : c ∉ fs := by simpa using hf
        have hfn := few (List.nodup_append.mpr ⟨hw.nf, by simp, fun a ha b hb e => hf (by rw [List.mem_singleton.mp hb] at e; exact e ▸ ha)⟩) (fs := fs ++ [c]) fun d hd => by
          rcases List.mem_append.mp hd with hd | hd
          · exact hw.nd d hd
          · rw [List.mem_singleton.mp hd]; exact hcn
        rw [List.length_append, List.length_singleton] at hfn
        refine as_seq <| as_asg <| ae_bl <| ag_put <| ae_var rfl <| ae_var rfl ⟨1, _, key2 c, rfl, rfl, g0, ?_, ?_⟩
        · rw [fD_len, sizeLine_eq]; omega
        rw [fD_put, if_neg hf]
        have g2 := get_ne (b := dM (fD (.bl true) (fs ++ [c]))) (by decide : 1 ≠ 3) g2
        have g9 := get_ne (b := dM (fD (.bl true) (fs ++ [c]))) (by decide : 1 ≠ 0) g9
        have gk := get_ne (b := dM (fD (.bl true) (fs ++ [c]))) hk0 gk
        have g0 := get_set (b := dM (fD (.bl true) (fs ++ [c]))) g0
        have hD := isD_set (k := 1) hD (isD_dM (fD (.bl true) (fs ++ [c])))
        generalize M1.set 1 (dM (fD (.bl true) (fs ++ [c]))) = M2 at g9 g0 g2 gk hD
        have hkn : knB pm c = (decide (c.2 = 0) || pokedB pm c) := rfl
        have old : knB pm c = true → ∃ m', m' < 4 * (N - fs.length) + (ws0 ++ [c]).length ∧ ∃ (fs ws : List Cell) (k' : Nat) (a6 a7' : Option AV), [some (.d (.lst (rms.map Rm.t))), some (.m 0), some (.d (.lst (cells.map pk))), some (.m 1), some (.m k), some (.m 3), some (.d (pk c)), a7] = [some (.d (.lst (rms.map Rm.t))), some (.m 0), some (.d (.lst (cells.map pk))), some (.m 1), some (.m k'), some (.m 3), a6, a7'] ∧ 1 ≠ k' ∧ 3 ≠ k' ∧ 0 ≠ k' ∧ M2[0]? = some (dM (pkD pm)) ∧
            M2[1]? = some (dM (fD (.bl true) fs)) ∧ M2[k']? = some (.lst (ws.map pk)) ∧ M2[3]? = some (.lst ((fs.filter fun c => !knB pm c).map pk)) ∧ M2.all MO.isD = true ∧ PileI (ears (rms.map Rm.rd)) (knB pm) cells fs ws ∧ ws.length ≤ cells.length + 3 * fs.length ∧ m' = 4 * (N - fs.length) + ws.length := fun hk => by
          refine ⟨4 * (N - (fs ++ [c]).length) + ws0.length, ?_, fs ++ [c], ws0, k, _, _, rfl, hk0, hk2, hk9, g9, g0, gk, ?_, hD, ?_, ?_, rfl⟩
          · rw [List.length_append, List.length_append, List.length_singleton]; omega
          · rw [List.filter_append, List.filter_cons, hk]
            simpa using g2
          · have := hw.more hf (new := []) (by simp) (fun z => by rw [hk] at z; cases z)
            rw [List.append_nil] at this
            exact this
          · rw [List.length_append, List.length_singleton]; omega
        refine as_if <| at_and <| at_test <| ae_op <| ae_var rfl <| ae_var rfl <| ar_inM (neg := true) g9 ?_
        rw [if_pos rfl, val_pkD]
        refine ⟨_, rfl, fun hp => ?_, fun hp => ?_⟩
        · have hp : pokedB pm c = false := by simpa using hp
          refine at_test <| ae_op <| ae_op <| ae_var rfl <| ae_int <| ur_ixK (k := .inl c.2) rfl <| ae_int <| ar_b0 ⟨_, rfl, fun hb => ?_, fun hb => ?_⟩
          · have hb : 0 < c.2 := of_decide_eq_true hb
            have hk : knB pm c = false := by rw [hkn, hp, decide_eq_false (by omega)]; rfl
            obtain ⟨x, hx, hxm, hxa⟩ := rm_at c0 c1
            have hxo := hrm.ok x hxm
            have he : hearC (ears (rms.map Rm.rd)) c = x.ears.map fun j => (j, c.2 - 1) := by unfold hearC; rw [ears_rmsG hx]
            have hel := hxo.few
            have hfl : (fs.filter fun c => !knB pm c).length ≤ fs.length := List.length_filter_le _ _
            refine as_seq <| as_drop <| ae_append <| ae_var rfl ⟨3, _, rfl, g2, aa_cons <| ae_var rfl <| aa_nil ⟨pk c, _, rfl, g2, by rw [List.length_map, sizeLine_eq]; omega, ?_⟩⟩
            rw [show (fs.filter fun c => !knB pm c).map pk ++ [pk c] = ((fs ++ [c]).filter fun c => !knB pm c).map pk from by
              rw [List.filter_append, List.filter_cons, hk, List.map_append]; rfl]
            have g0 := get_ne (b := .lst (((fs ++ [c]).filter fun c => !knB pm c).map pk)) (by decide : 3 ≠ 1) g0
            have g9 := get_ne (b := .lst (((fs ++ [c]).filter fun c => !knB pm c).map pk)) (by decide : 3 ≠ 0) g9
            have gk := get_ne (b := .lst (((fs ++ [c]).filter fun c => !knB pm c).map pk)) hk2 gk
            have g2 := get_set (b := .lst (((fs ++ [c]).filter fun c => !knB pm c).map pk)) g2
            have hD := isD_set (k := 3) hD (show (MO.lst (((fs ++ [c]).filter fun c => !knB pm c).map pk)).isD = true from rfl)
            generalize M2.set 3 (.lst (((fs ++ [c]).filter fun c => !knB pm c).map pk)) = M3 at g9 g0 g2 gk hD
            refine as_asgN <| ae_op <| ae_var rfl <| ae_map (l := x.ears.map D.int) (fun d => pk (toI d, c.2 - 1)) (isD_below hD) (gk_name rfl) (by rw [List.length_map, sizeLine_eq]; omega) (ai_seqT <| ae_op <| ae_op <| ae_var rfl <| ae_op <| ae_var rfl <| ae_int <| ur_ixK (k := .inl c.1) rfl <| ur_ixL hxa <| ae_int <| ur_ixT (d := .tup (x.ears.map D.int)) rfl ⟨_, rfl, rfl, rfl, ?_⟩) fun d hd acc => ?_
            · rw [List.map_map, show (x.ears.map ((fun d => pk (toI d, c.2 - 1)) ∘ D.int)) = (hearC (ears (rms.map Rm.rd)) c).map pk from by rw [he, List.map_map]; rfl]
              have hhl : (hearC (ears (rms.map Rm.rd)) c).length ≤ 3 := by rw [he, List.length_map]; exact hel
              refine ur_addLM (.mm gk) (.lst _) (by rw [List.length_map, List.length_map, sizeLine_eq]; omega) ⟨4 * (N - (fs ++ [c]).length) + (ws0 ++ hearC (ears (rms.map Rm.rd)) c).length, ?_, fs ++ [c], ws0 ++ hearC (ears (rms.map Rm.rd)) c, M3.length, _, _, rfl, ?_, ?_, ?_, get_app g9, get_app g0, ?_, get_app g2, all_isD1 hD rfl, hw.more hf (fun d hd => ?_) fun _ d hd => hd, ?_, rfl⟩
              · rw [List.length_append, List.length_append, List.length_append, List.length_singleton]; omega
              · have := (List.getElem?_eq_some_iff.mp g2).1; omega
              · have := (List.getElem?_eq_some_iff.mp g2).1; omega
              · have := (List.getElem?_eq_some_iff.mp g2).1; omega
              · rw [← List.map_append]; exact get_end
              · obtain ⟨j, hj, rfl⟩ := List.mem_map.mp hd
                exact .step hcn hk hj
              · rw [List.length_append, List.length_append, List.length_singleton]; omega
            · obtain ⟨j, hj, rfl⟩ := List.mem_map.mp hd
              exact ag_name <| ae_tupK <| aa_cons <| ae_var rfl <| aa_cons <| ae_op <| ae_op <| ae_var rfl <| ae_int <| ur_ixK (k := .inl c.2) rfl <| ae_int <| ar_i0 <| aa_nil ⟨key2 (j, c.2 - 1), rfl, Nat.le_of_ble_eq_true rfl, rfl, rfl⟩
          · have hb : ¬ 0 < c.2 := of_decide_eq_false hb
            exact as_next (old (by rw [hkn, decide_eq_true (show c.2 = 0 by omega)]; rfl))
        · have hp : pokedB pm c = true := by simpa using hp
          exact ⟨(fun z => nomatch z), fun _ => as_next (old (by rw [hkn, hp, Bool.or_true]))⟩
      · have hf : c ∈ fs := by simpa using hf
        refine as_next ⟨4 * (N - fs.length) + ws0.length, ?_, fs, ws0, k, _, _, rfl, hk0, hk2, hk9, g9, g0, gk, g2, hD, hw.old hf, by omega, rfl⟩
        rw [List.length_append, List.length_singleton]; omega
    · have hne : ws = [] := by simpa using hne
      subst hne
      refine as_ret <| ae_tup <| aa_cons <| ae_cb <| aa_cons <| ae_var rfl <| aa_nil <| uc_sortedDF (.mm g0) fD_keys fun out o1 o2 => ?_
      refine aa_cons <| ae_cb <| aa_cons <| ae_var rfl <| aa_nil <| uc_sortedP (.mm g2) fun run r1 r2 => ?_
      refine aa_nil ⟨[_, _], rfl, Nat.le_of_ble_eq_true rfl, rt_keep9 hD g9 (p out run o2 (o1.nodup_iff.mpr hw.nf) (fun c => by rw [o1.mem_iff]; exact hw.done c) r2 (r1.nodup_iff.mpr (hw.nf.filter _)) fun c => ?_)⟩
      rw [r1.mem_iff, List.mem_filter, hw.done c]
      simp
end
end Wd
namespace Al
open PySem PySem.Spec PyProof.Rows L2 Gx
variable [Al.TabList]
section
variable {B : Base} {K : PySem.W.Frag} {σ : AEnv} {M : List MO} {te : TE} {tl th tk : TO} {Φ : AV → List MO → Prop}
theorem ae_sliceRM (h : AE B K te σ M fun x M1 => ∃ l, (x = .d (.lst l) ∨ ∃ k, x = .m k ∧ M1[k]? = some (.lst l)) ∧ AO B K tl σ M1 fun lo M2 => M2 = M1 ∧ AO B K th σ M1 fun hi M3 => M3 = M1 ∧ AO B K tk σ M1 fun st M4 => M4 = M1 ∧ lo = none ∧ (hi = none ∨ hi = some 0) ∧ st = some (-1) ∧ Φ (.m M1.length) (M1 ++ [.lst (downD l hi)])) :
    AE B K (tSlR K te tl th tk) σ M Φ := fun W μ H τ o s e Q q =>
  h W μ H τ o s e _ fun x M1 W1 μ1 H1 v ⟨l, e1, p⟩ f1 r1 => by
    refine p W1 μ1 H1 τ f1.ok f1.sim (f1.re e) _ fun lo M2 W2 μ2 H2 ⟨em2, p2⟩ f2 => ?_
    subst em2
    refine p2 W2 μ2 H2 τ f2.ok f2.sim ((f1.trans f2).re e) _ fun hi M3 W3 μ3 H3 ⟨em3, p3⟩ f3 => ?_
    subst em3
    refine p3 W3 μ3 H3 τ f3.ok f3.sim (((f1.trans f2).trans f3).re e) _ fun st M4 W4 μ4 H4 ⟨em4, h1, h2, h3, p4⟩ f4 => ⟨h1, h2, h3, ?_⟩
    subst em4
    have f24 := (f2.trans f3).trans f4
    have key : ∃ a vs, v = .ref a ∧ SqL K H4 a vs ∧ RDs K W4 l vs := by
      rcases e1 with rfl | ⟨k, rfl, hk⟩
      · obtain ⟨a, vs, rfl, z1, z2⟩ := r1
        exact ⟨a, vs, rfl, SqL.of (f4.sim.sub _ _ (f24.wext _ _ z1)), RDs.mono f24.wext z2⟩
      · obtain ⟨a, ha, rfl⟩ := r1
        have ha4 : μ4[k]? = some a := by
          obtain ⟨ext, e5⟩ := f24.mext
          rw [e5, List.getElem?_append_left (List.getElem?_eq_some_iff.mp ha).1]
          exact ha
        obtain ⟨vs, z1, z2⟩ := f4.sim.ob k a (.lst l) ha4 hk
        exact ⟨a, vs, rfl, SqL.of z1, z2⟩
    obtain ⟨a, vs, rfl, z1, z2⟩ := key
    refine ⟨a, vs, rfl, z1, fun p hp => ?_⟩
    have g := go_mut (u := .lst (downV vs hi)) (mo := .lst (downD l hi)) f4.ok f4.sim hp ⟨_, upd_same, z2.down hi⟩
    refine q _ _ _ _ _ _ p4 (f1.trans (f24.trans g)) ⟨p, ?_, rfl⟩
    rw [← f4.sim.len, List.getElem?_append_right (Nat.le_refl _), Nat.sub_self]
    rfl
end
end Al
namespace Wd
open PySem PySem.Spec PyProof.Rows L2 Al Gx Nd Dt Lm Cb NdefX
variable [Al.TabList]
theorem sc_way_by : FnScope ["web", "cell", "goal", "known", "layers", "ahead", "one", "heard", "found", "layer"] ["web", "cell", "goal", "known"] (defScope (top 22)) := ⟨rfl, rfl, rfl, by decide +kernel, rfl, by decide +kernel, by decide +kernel⟩
/-- k beats down from c, through what is not known -/
inductive AtD (ear : Int → List Int) (kn : Cell → Bool) (c : Cell) : Nat → Cell → Prop
  | top : AtD ear kn c 0 c
  | dn {k : Nat} {b : Cell} {j : Int} (h : AtD ear kn c k b) (hk : kn b = false) (hj : j ∈ ear b.1) : AtD ear kn c (k + 1) (j, b.2 - 1)
section
variable {ear : Int → List Int} {kn : Cell → Bool} {c : Cell}
theorem AtD.beat {k : Nat} {a : Cell} (h : AtD ear kn c k a) : a.2 = c.2 - k := by
  induction h with
  | top => simp
  | @dn k b j _ _ _ ih => show b.2 - 1 = _; omega
theorem AtD.need {k : Nat} {a : Cell} (h : AtD ear kn c k a) : NeedC ear kn [c] a := by
  induction h with
  | top => exact .base List.mem_cons_self
  | dn _ hk hj ih => exact .step ih hk hj
theorem need_atD {a : Cell} (h : NeedC ear kn [c] a) : ∃ k, AtD ear kn c k a := by
  induction h with
  | base hm => rw [List.mem_singleton.mp hm]; exact ⟨0, .top⟩
  | step _ hk hj ih =>
    obtain ⟨k, hkd⟩ := ih
    exact ⟨k + 1, .dn hkd hk hj⟩
theorem AtD.up : ∀ {n : Nat} {a : Cell}, AtD ear kn c n a → ∀ k, k ≤ n → ∃ b, AtD ear kn c k b
  | 0, a, h, k, hk => by
    have : k = 0 := by omega
    subst this
    exact ⟨a, h⟩
  | n + 1, a, h, k, hk => by
    by_cases e : k = n + 1
    · subst e; exact ⟨a, h⟩
    · cases h with
      | dn h _ _ => exact AtD.up h k (by omega)
end
/-- a way from c down to goal -/
structure IsWayD (ear : Int → List Int) (kn : Cell → Bool) (c goal : Cell) (ws : List Cell) : Prop where
  first : ws[0]? = some c
  last : ws[ws.length - 1]? = some goal
  step : ∀ i y x, ws[i]? = some y → ws[i + 1]? = some x → x.1 ∈ ear y.1 ∧ x.2 = y.2 - 1 ∧ kn y = false
structure LayD (ear : Int → List Int) (kn : Cell → Bool) (c : Cell) (ls : List KD) : Prop where
  l0 : ls[0]? = some [(key2 c, .non)]
  dn : ∀ i l l', ls[i]? = some l → ls[i + 1]? = some l' → ∀ a d, valG l' (key2 a) = some d → ∃ (b : Cell) (j : Int), d = pk b ∧ a = (j, b.2 - 1) ∧ j ∈ ear b.1 ∧ kn b = false ∧ (valG l (key2 b)).isSome = true
  has : ∀ i l l', ls[i]? = some l → ls[i + 1]? = some l' → ∀ b, (valG l (key2 b)).isSome = true → kn b = false → ∀ j ∈ ear b.1, (valG l' (key2 (j, b.2 - 1))).isSome = true
  ks : ∀ l ∈ ls, ∀ p ∈ l, ∃ a : Cell, p.1 = key2 a
section
variable {ear : Int → List Int} {kn : Cell → Bool} {c : Cell} {ls : List KD}
theorem one_at {c a : Cell} : (valG ([(key2 c, .non)] : KD) (key2 a)).isSome = true ↔ a = c := by
  rw [valG_iff]
  constructor
  · rintro ⟨p, hp, e⟩
    rw [List.mem_singleton.mp hp] at e
    exact (key2_inj e).symm
  · rintro rfl
    exact ⟨_, List.mem_cons_self, rfl⟩
theorem LayD.iff (L : LayD ear kn c ls) : ∀ (k : Nat) (l : KD), ls[k]? = some l → ∀ a, (valG l (key2 a)).isSome = true ↔ AtD ear kn c k a
  | 0, l, hl, a => by
    rw [L.l0] at hl
    cases hl
    rw [one_at]
    constructor
    · rintro rfl; exact .top
    · intro h; cases h; rfl
  | k + 1, l, hl, a => by
    have hlt := (List.getElem?_eq_some_iff.mp hl).1
    have hk : ls[k]? = some (ls[k]'(by omega)) := List.getElem?_eq_getElem _
    constructor
    · intro h
      obtain ⟨d, hd⟩ := Option.isSome_iff_exists.mp h
      obtain ⟨b, j, _, rfl, hj, hkb, hb⟩ := L.dn k _ l hk hl a d hd
      exact .dn ((LayD.iff L k _ hk b).mp hb) hkb hj
    · intro h
      cases h with
      | dn h hkb hj => exact L.has k _ l hk hl _ ((LayD.iff L k _ hk _).mpr h) hkb _ hj
theorem LayD.way (L : LayD ear kn c ls) : ∀ (k : Nat) (l : KD) (a : Cell), ls[k]? = some l → (valG l (key2 a)).isSome = true →
    ∃ way : List Cell, way.length = k + 1 ∧ way[0]? = some a ∧ way[k]? = some c ∧ ∀ i x y, way[i]? = some x → way[i + 1]? = some y → (x.1 ∈ ear y.1 ∧ x.2 = y.2 - 1 ∧ kn y = false) ∧ ∃ l', ls[k - i]? = some l' ∧ valG l' (key2 x) = some (pk y)
  | 0, l, a, hl, ha => by
    have e := (L.iff 0 l hl a).mp ha
    cases e
    exact ⟨[c], rfl, rfl, rfl, fun i x y _ h2 => by simp at h2⟩
  | k + 1, l, a, hl, ha => by
    obtain ⟨d, hd⟩ := Option.isSome_iff_exists.mp ha
    have hlt := (List.getElem?_eq_some_iff.mp hl).1
    have hk : ls[k]? = some (ls[k]'(by omega)) := List.getElem?_eq_getElem _
    obtain ⟨b, j, rfl, rfl, hj, hkb, hb⟩ := L.dn k _ l hk hl a d hd
    obtain ⟨way, w1, w2, w3, w4⟩ := LayD.way L k _ b hk hb
    refine ⟨(j, b.2 - 1) :: way, by rw [List.length_cons, w1], rfl, by rw [List.getElem?_cons_succ]; exact w3, fun i x y hx hy => ?_⟩
    cases i with
    | zero =>
      rw [List.getElem?_cons_zero] at hx
      rw [List.getElem?_cons_succ, w2] at hy
      cases hx; cases hy
      exact ⟨⟨hj, rfl, hkb⟩, l, hl, hd⟩
    | succ i =>
      rw [List.getElem?_cons_succ] at hx hy
      obtain ⟨z1, z2⟩ := w4 i x y hx hy
      exact ⟨z1, by rw [show k + 1 - (i + 1) = k - i by omega]; exact z2⟩
/-- the layer below -/
def keyW : D → List Key | .key k => k | _ => []
def layDn (ear : Int → List Int) (kn : Cell → Bool) (l : KD) : KD := storG [] ((l.map fun p => (Al.D.key p.1 : Al.D)).flatMap fun d => if (!kn (cellD d)) = true then ((ear (cellD d).1).map fun j => pk (j, (cellD d).2 - 1)).map (fun e => (keyW e, d)) else [])
theorem mem_dn {l : KD} (hk : ∀ p ∈ l, ∃ a : Cell, p.1 = key2 a) {k : List Key} {d : D} : (k, d) ∈ ((l.map fun p => (Al.D.key p.1 : Al.D)).flatMap fun d => if (!kn (cellD d)) = true then ((ear (cellD d).1).map fun j => pk (j, (cellD d).2 - 1)).map (fun e => (keyW e, d)) else []) ↔
    ∃ (b : Cell) (j : Int), k = key2 (j, b.2 - 1) ∧ d = pk b ∧ j ∈ ear b.1 ∧ kn b = false ∧ (valG l (key2 b)).isSome = true := by
  rw [List.mem_flatMap]
  constructor
  · rintro ⟨d', hd', h⟩
    obtain ⟨p, hp, rfl⟩ := List.mem_map.mp hd'
    obtain ⟨b, hb⟩ := hk p hp
    rw [hb] at h
    have h : (k, d) ∈ if (!kn b) = true then ((ear b.1).map fun j => pk (j, b.2 - 1)).map (fun e => (keyW e, pk b)) else [] := h
    by_cases hkb : (!kn b) = true
    · rw [if_pos hkb] at h
      obtain ⟨e, he, e2⟩ := List.mem_map.mp h
      obtain ⟨j, hj, rfl⟩ := List.mem_map.mp he
      cases e2
      exact ⟨b, j, rfl, rfl, hj, by simpa using hkb, valG_iff.mpr ⟨p, hp, hb⟩⟩
    · rw [if_neg hkb] at h
      cases h
  · rintro ⟨b, j, rfl, rfl, hj, hkb, hb⟩
    obtain ⟨p, hp, e⟩ := valG_iff.mp hb
    refine ⟨pk b, List.mem_map.mpr ⟨p, hp, by rw [e]⟩, ?_⟩
    show (key2 (j, b.2 - 1), pk b) ∈ if (!kn b) = true then ((ear b.1).map fun j => pk (j, b.2 - 1)).map (fun e => (keyW e, pk b)) else []
    rw [hkb]; rw [if_pos (show (!false) = true from rfl)]
    exact List.mem_map.mpr ⟨pk (j, b.2 - 1), List.mem_map.mpr ⟨j, hj, rfl⟩, rfl⟩
theorem storG_keysD {ps : List (List Key × D)} {p : List Key × D} (h : p ∈ storG [] ps) : ∃ d, (p.1, d) ∈ ps := by
  obtain ⟨d, hd⟩ := Option.isSome_iff_exists.mp (valG_iff.mpr ⟨p, h, rfl⟩ : (valG (storG [] ps) p.1).isSome = true)
  rcases storG_some hd with z | z
  · cases z
  · exact ⟨d, z⟩
theorem storG_nodupD : ∀ {ps : List (List Key × D)} {acc : KD}, (acc.map Prod.fst).Nodup → ((storG acc ps).map Prod.fst).Nodup
  | [], _, h => h
  | p :: ps, acc, h => by
    refine storG_nodupD (ps := ps) (acc := putG acc p.1 p.2) ?_
    rw [putG_keys]
    split
    · exact h
    · rename_i hn
      exact List.nodup_append.mpr ⟨h, by simp, fun a ha b hb e => hn (by rw [← List.mem_singleton.mp hb, ← e]; exact ha)⟩
theorem LayD.more {l : KD} (L : LayD ear kn c ls) (hl : ls[ls.length - 1]? = some l) : LayD ear kn c (ls ++ [layDn ear kn l]) := by
  have hne : 0 < ls.length := by
    have := (List.getElem?_eq_some_iff.mp L.l0).1
    omega
  have hm : l ∈ ls := List.mem_of_getElem? hl
  have cut : ∀ i l1 l2, (ls ++ [layDn ear kn l])[i]? = some l1 → (ls ++ [layDn ear kn l])[i + 1]? = some l2 → (ls[i]? = some l1 ∧ ls[i + 1]? = some l2) ∨ (l1 = l ∧ l2 = layDn ear kn l) := fun i l1 l2 h1 h2 => by
    by_cases hi : i + 1 < ls.length
    · rw [List.getElem?_append_left hi] at h2
      rw [List.getElem?_append_left (by omega)] at h1
      exact .inl ⟨h1, h2⟩
    · have hlt := (List.getElem?_eq_some_iff.mp h2).1
      rw [List.length_append] at hlt
      have hlt : i + 1 < ls.length + 1 := hlt
      have e : i = ls.length - 1 := by omega
      subst e
      rw [List.getElem?_append_left (by omega), hl] at h1
      rw [show ls.length - 1 + 1 = ls.length by omega, List.getElem?_append_right (Nat.le_refl _), Nat.sub_self] at h2
      cases h1; cases h2
      exact .inr ⟨rfl, rfl⟩
  refine ⟨by rw [List.getElem?_append_left hne]; exact L.l0, fun i l1 l2 h1 h2 a d hd => ?_, fun i l1 l2 h1 h2 b hb hkb j hj => ?_, fun l1 h1 p hp => ?_⟩
  · rcases cut i l1 l2 h1 h2 with ⟨z1, z2⟩ | ⟨rfl, rfl⟩
    · exact L.dn i l1 l2 z1 z2 a d hd
    · rcases storG_some hd with z | z
      · cases z
      · obtain ⟨b, j, e1, e2, e3, e4, e5⟩ := (mem_dn (L.ks _ hm)).mp z
        exact ⟨b, j, e2, key2_inj e1, e3, e4, e5⟩
  · rcases cut i l1 l2 h1 h2 with ⟨z1, z2⟩ | ⟨rfl, rfl⟩
    · exact L.has i l1 l2 z1 z2 b hb hkb j hj
    · exact storG_has (.inr ⟨pk b, (mem_dn (L.ks _ hm)).mpr ⟨b, j, rfl, rfl, hj, hkb, hb⟩⟩)
  · rcases List.mem_append.mp h1 with h1 | h1
    · exact L.ks l1 h1 p hp
    · rw [List.mem_singleton.mp h1] at hp
      obtain ⟨d, hd⟩ := storG_keysD hp
      obtain ⟨b, j, e1, _⟩ := (mem_dn (L.ks l hm)).mp hd
      exact ⟨_, e1⟩
end
theorem keys_cellsD {l : KD} (h : ∀ p ∈ l, ∃ a : Cell, p.1 = key2 a) : ∃ cs : List Cell, (l.map fun p => (Al.D.key p.1 : Al.D)) = cs.map pk ∧ cs.length = l.length ∧ ((l.map Prod.fst).Nodup → cs.Nodup) ∧ ∀ a : Cell, a ∈ cs ↔ (valG l (key2 a)).isSome = true := by
  refine ⟨l.map fun p => cellD (.key p.1), ?_, List.length_map .., fun nd => ?_, fun a => ?_⟩
  · rw [List.map_map]
    refine List.map_congr_left fun p hp => ?_
    obtain ⟨a, ha⟩ := h p hp
    show D.key p.1 = pk (cellD (.key p.1))
    rw [ha]
    rfl
  · have e : l.map Prod.fst = (l.map fun p => cellD (.key p.1)).map key2 := by
      rw [List.map_map]
      refine List.map_congr_left fun p hp => ?_
      obtain ⟨a, ha⟩ := h p hp
      show p.1 = key2 (cellD (.key p.1))
      rw [ha]
      rfl
    rw [e] at nd
    exact (List.pairwise_map.mp nd).imp fun hne z => hne (by rw [z])
  · rw [valG_iff, List.mem_map]
    constructor
    · rintro ⟨p, hp, rfl⟩
      obtain ⟨b, hb⟩ := h p hp
      exact ⟨p, hp, by rw [hb]; rfl⟩
    · rintro ⟨p, hp, e⟩
      exact ⟨p, hp, by rw [e]; rfl⟩
/-- a layer holds few -/
theorem lay_few {n : Nat} {b : Int} {cs : List Cell} (nd : cs.Nodup) (h : ∀ c ∈ cs, (0 ≤ c.1 ∧ c.1 < n) ∧ c.2 = b) : cs.length ≤ n := by
  have := nodup_le (ns := (List.range n).map fun (r : Nat) => ((r : Int), b)) nd fun c hc => by
    obtain ⟨⟨h0, h1⟩, h2⟩ := h c hc
    refine List.mem_map.mpr ⟨c.1.toNat, List.mem_range.mpr (by omega), ?_⟩
    exact Prod.ext (by show ((c.1.toNat : Nat) : Int) = c.1; omega) h2.symm
  rwa [List.length_map, List.length_range] at this
def aWayBy (C CW : Addr) (d : D) (dom : Int × Int → Prop) (kn : Int × Int → Bool) : ASp := fun xs M Φ _ => ∃ (rs : List Rd) (c goal : Cell), xs = [.d (webV C CW rs), .d (pk c), .d (pk goal), .d d] ∧ M = [] ∧ Heard rs ∧ rs.length ≤ 12 ∧ (0 ≤ c.1 ∧ c.1 < rs.length) ∧ c.2 - goal.2 ≤ 100000 ∧ (∀ a, NeedC (ears rs) kn [c] a → dom a) ∧
  (∀ ws, IsWayD (ears rs) kn c goal ws → ws.length ≤ 100001 → Φ (.m 0) [.lst (ws.map pk)]) ∧ (¬ NeedC (ears rs) kn [c] goal → Φ (.d .non) [])
theorem mono_wayBy {C CW : Addr} {d : D} {dom : Int × Int → Prop} {kn : Int × Int → Bool} : Mono (aWayBy C CW d dom kn) := fun xs M Φ Φ' Ψ Ψ' h1 _ ⟨rs, c, goal, e1, e2, e3, e4, e5, e6, e7, p, q⟩ => ⟨rs, c, goal, e1, e2, e3, e4, e5, e6, e7, fun ws hw hl => h1 _ _ (p ws hw hl), fun z => h1 _ _ (q z)⟩
end Wd
namespace Wd
open PySem PySem.Spec PyProof.Rows L2 Al Gx Nd Dt Lm Cb NdefX
variable [Al.TabList]
theorem sc_way : FnScope ["web", "cell", "goal", "pokes"] ["web", "cell", "goal", "pokes"] (defScope (top 23)) := ⟨rfl, rfl, rfl, by decide +kernel, rfl, by decide +kernel, by decide +kernel⟩
def lamY : Expr := exA (stV ((defBody (top 23)).getD 0 default)) 3
def lsc_way : Scope := lamS lamY
theorem nsc_Y : NScope ["one", "pokes"] ["one"] ["pokes"] (lamS lamY) := nscope_by (by decide +kernel)
section
variable {P : Program} {w : World} {K : PySem.W.Frag} {mg : Str → Option Value} {base : Heap}
theorem way_lok (G_is_known : FnAt P w K mg base CX0 1 "is_known" ["cell", "pokes"] aKnown) (cl : List (Str × Addr)) (f c' : Addr) (wsv : List V) : LOk P w K mg base CX0 8 f ⟨"way.<locals>.<lambda>", lamP lamY, lamB lamY, lamS lamY, cl, c'⟩ ["one"] ["pokes"] (wsv.map some) [] (spKn K wsv) := by
  refine (lok_of (k := 2) nsc_Y (fun pm ctv us hl => match us, hl with | [_], _ => rfl) (fun vs H Q E h => ?_) fun A outer s H vs Q E hr hC h => ?_).mono (by decide)
  · obtain ⟨v, p, rfl, _⟩ := h
    rfl
  · obtain ⟨v, p, rfl, rfl, h⟩ := h
    exact ⟨_, (show PE (ncx CX0 P w K mg base ["one", "pokes"] (nfOf ⟨"way.<locals>.<lambda>", lamP lamY, lamB lamY, lamS lamY, cl, c'⟩) f A outer s H E).nox (lamB lamY) _ from pe_fn G_is_known (hr.mono (by decide)) rfl pass0 (pa_cons (pv 0) (pa_cons (pv 1) pa_nil))).nox, _, rfl, _, rfl, h⟩
def wayZ (G_is_known : FnAt P w K mg base CX0 1 "is_known" ["cell", "pokes"] aKnown) (cl : List (Str × Addr)) (f c' : Addr) (wsv : List V) : LamZ P w K mg base 8 := ⟨f, ⟨"way.<locals>.<lambda>", lamP lamY, lamB lamY, lamS lamY, cl, c'⟩, ["one"], ["pokes"], wsv, [], spKn K wsv, way_lok G_is_known cl f c' wsv⟩
end
def aWay (C CW : Addr) : ASp := fun xs M Φ _ => ∃ (rs : List Rd) (c goal : Cell) (pm : Pm) (d : D), xs = [.d (webV C CW rs), .d (pk c), .d (pk goal), .d d] ∧ M = [] ∧ PkV [] (.d d) pm ∧ Heard rs ∧ rs.length ≤ 12 ∧ (0 ≤ c.1 ∧ c.1 < rs.length) ∧ c.2 - goal.2 ≤ 100000 ∧
  (∀ ws, IsWayD (ears rs) (knB pm) c goal ws → ws.length ≤ 100001 → Φ (.m 0) [.lst (ws.map pk)]) ∧ (¬ NeedC (ears rs) (knB pm) [c] goal → Φ (.d .non) [])
theorem mono_way {C CW : Addr} : Mono (aWay C CW) := fun xs M Φ Φ' Ψ Ψ' h1 _ ⟨rs, c, goal, pm, d, e1, e2, e3, e4, e5, e6, e7, p, q⟩ => ⟨rs, c, goal, pm, d, e1, e2, e3, e4, e5, e6, e7, fun ws hw hl => h1 _ _ (p ws hw hl), fun z => h1 _ _ (q z)⟩
theorem at_val {B : Base} {K : PySem.W.Frag} {σ : AEnv} {M : List MO} {t : TT} {b : Bool} {Φ : Bool → List MO → Prop} (h : AT B K t σ M fun v M1 => v = b ∧ M1 = M) (k : Φ b M) : AT B K t σ M Φ := fun W μ H τ o s e Q q =>
  h W μ H τ o s e Q fun v M1 W1 μ1 H1 ⟨e1, e2⟩ f => by
    subst e1; subst e2
    exact q _ _ _ _ _ k f
theorem rev_way {ear : Int → List Int} {kn : Cell → Bool} {c goal : Cell} {way : List Cell} {k : Nat} (w1 : way.length = k + 1) (w2 : way[0]? = some goal) (w3 : way[k]? = some c) (w4 : ∀ i x y, way[i]? = some x → way[i + 1]? = some y → x.1 ∈ ear y.1 ∧ x.2 = y.2 - 1 ∧ kn y = false) : IsWayD ear kn c goal way.reverse := by
  refine ⟨?_, ?_, fun i y x hy hx => ?_⟩
  · rw [List.getElem?_reverse (by omega), w1]
    exact w3
  · rw [List.length_reverse, List.getElem?_reverse (by omega), show way.length - 1 - (way.length - 1) = 0 by omega]
    exact w2
  · have hlt := (List.getElem?_eq_some_iff.mp hx).1
    rw [List.length_reverse] at hlt
    rw [List.getElem?_reverse (by omega)] at hx hy
    refine w4 (way.length - 1 - (i + 1)) x y hx ?_
    rw [show way.length - 1 - (i + 1) + 1 = way.length - 1 - i by omega]
    exact hy
theorem downW_at {l : List D} {i : Nat} {d : D} (h : (downD l (some 0))[i]? = some d) : i + 1 < l.length ∧ l[l.length - 1 - i]? = some d := by
  have e : downD l (some 0) = (l.drop 1).reverse := rfl
  rw [e] at h
  have hlt := (List.getElem?_eq_some_iff.mp h).1
  rw [List.length_reverse, List.length_drop] at hlt
  rw [List.getElem?_reverse (by rw [List.length_drop]; omega), List.length_drop, List.getElem?_drop] at h
  refine ⟨by omega, ?_⟩
  rw [← h]
  congr 1
  omega
theorem dn_sum {rs : List Rd} (hh : Heard rs) {kn : Cell → Bool} : ∀ cs : List Cell, ((cs.map pk).flatMap fun d => if (!kn (cellD d)) = true then ((ears rs (cellD d).1).map fun j => pk (j, (cellD d).2 - 1)).map (fun e => (keyW e, d)) else []).length ≤ 3 * cs.length
  | [] => Nat.le_refl _
  | a :: cs => by
    have ih := dn_sum hh (kn := kn) cs
    have h3 := (ears_in hh (k := a.1)).2
    rw [List.map_cons, List.flatMap_cons, List.length_append, List.length_cons]
    have : (if (!kn (cellD (pk a))) = true then ((ears rs (cellD (pk a)).1).map fun j => pk (j, (cellD (pk a)).2 - 1)).map (fun e => (keyW e, pk a)) else []).length ≤ 3 := by
      split
      · rw [List.length_map, List.length_map]; exact h3
      · exact Nat.zero_le _
    exact Nat.le_trans (Nat.add_le_add this ih) (by omega)
local macro_rules | `(tactic| walk_at "alside") => `(tactic| first
  | decide
  | (dsimp only; decide)
  | exact Or.inr (by decide)
  | exact Or.inl (by decide)
  | (dsimp only; omega)
  | (unfold CDiv; omega)
  | (unfold CPow; omega)
  | (unfold CMul; omega)
  | assumption)
local macro_rules | `(tactic| walk_at "al1") => `(tactic| first
  | with_reducible refine as_asg ?_
  | with_reducible refine as_drop ?_
  | with_reducible refine as_ret ?_
  | with_reducible refine as_if ?_
  | with_reducible refine as_next ?_
  | with_reducible refine at_test ?_
  | with_reducible refine at_b ?_
  | with_reducible refine at_and ?_
  | with_reducible refine at_or ?_
  | with_reducible refine at_not ?_
  | with_reducible refine ae_op ?_
  | with_reducible refine ae_un ?_
  | with_reducible refine ae_cb ?_
  | with_reducible refine ae_if ?_
  | with_reducible refine ae_andV ?_
  | with_reducible refine ae_orV ?_
  | with_reducible refine ae_notV ?_
  | with_reducible refine ae_chain ?_
  | with_reducible refine ae_int ?_
  | with_reducible refine ae_bl ?_
  | with_reducible refine ae_non ?_
  | with_reducible refine ae_str ?_
  | with_reducible refine ae_ty ?_
  | with_reducible refine ae_adr ?_
  | with_reducible refine aa_nil ?_
  | with_reducible refine aa_cons ?_
  | with_reducible refine ag_name ?_
  | with_reducible refine ag_sub ?_
  | with_reducible refine at_yes ?_
  | ((with_reducible show AE _ _ (tVar _) _ _ _); refine ae_var rfl ?_)
  | ((with_reducible show AR _ _ (uAdd _) _ _ _ _); refine ur_addI ?_)
  | ((with_reducible show AR _ _ (uMul _) _ _ _ _); refine ur_mulI (by walk_at "alside") ?_)
  | ((with_reducible show AR _ _ (uEq _) _ _ _ _); first | refine ur_eqI ?_ | refine ur_eqS ?_ | refine ur_eqB ?_)
  | ((with_reducible show AR _ _ (uNe _) _ _ _ _); first | refine ur_neI ?_ | refine ur_neS ?_ | refine ur_neB ?_)
  | ((with_reducible show AR _ _ (rIx _) _ _ _ _); first | refine ur_ixM rfl rfl ?_ | refine ur_ixL rfl ?_ | refine ur_ixT rfl ?_ | refine ur_ixS rfl ?_)
  | ((with_reducible show AC _ _ (uLen _) _ _ _); first | refine uc_len (.tup _) ?_ | refine uc_len (.lst _) ?_ | refine uc_len (.scr _) ?_ | refine uc_len (.mm rfl) ?_)
  | ((with_reducible show AR _ _ (rI0 _) _ _ _ _); first | with_reducible refine ar_i0 ?_ | with_reducible refine ar_b0 ?_)
  | ((with_reducible show AU _ _ (rU _) _ _ _); with_reducible refine au_i ?_)
  | ((with_reducible show AR _ _ (rI _ _) _ _ _ _); refine ar_i (by walk_at "alside") ?_)
  | ((with_reducible show AR _ _ (rIxL _) _ _ _ _); first | refine ar_ixM rfl rfl ?_ | refine ar_ixL rfl ?_ | refine ar_ixS rfl ?_)
  | ((with_reducible show AR _ _ (rIxT _) _ _ _ _); refine ar_ixT rfl ?_)
  | ((with_reducible show AR _ _ rEq _ _ _ _); first | with_reducible refine ar_eqI ?_ | with_reducible refine ar_eqS ?_ | with_reducible refine ar_eqB ?_)
  | ((with_reducible show AR _ _ rNe _ _ _ _); first | with_reducible refine ar_neI ?_ | with_reducible refine ar_neS ?_ | with_reducible refine ar_neB ?_))
local macro_rules | `(tactic| walk_at "alds") => `(tactic| first
  | refine ⟨[], rfl, Nat.le_of_ble_eq_true rfl, ?_⟩
  | refine ⟨[_], rfl, Nat.le_of_ble_eq_true rfl, ?_⟩
  | refine ⟨[_, _], rfl, Nat.le_of_ble_eq_true rfl, ?_⟩
  | refine ⟨[_, _, _], rfl, Nat.le_of_ble_eq_true rfl, ?_⟩
  | refine ⟨[_, _, _, _], rfl, Nat.le_of_ble_eq_true rfl, ?_⟩
  | refine ⟨[_, _, _, _, _], rfl, Nat.le_of_ble_eq_true rfl, ?_⟩
  | refine ⟨[_, _, _, _, _, _], rfl, Nat.le_of_ble_eq_true rfl, ?_⟩
  | refine ⟨[_, _, _, _, _, _, _], rfl, Nat.le_of_ble_eq_true rfl, ?_⟩
  | refine ⟨[_, _, _, _, _, _, _, _], rfl, Nat.le_of_ble_eq_true rfl, ?_⟩
  | refine ⟨[_, _, _, _, _, _, _, _, _], rfl, Nat.le_of_ble_eq_true rfl, ?_⟩
  | refine ⟨[_, _, _, _, _, _, _, _, _, _], rfl, Nat.le_of_ble_eq_true rfl, ?_⟩
  | refine ⟨[_, _, _, _, _, _, _, _, _, _, _], rfl, Nat.le_of_ble_eq_true rfl, ?_⟩
  | refine ⟨[_, _, _, _, _, _, _, _, _, _, _, _], rfl, Nat.le_of_ble_eq_true rfl, ?_⟩)
local macro_rules | `(tactic| walk_at "alc") => `(tactic| refine ae_call0 (Ψ := fun _ _ => False) (by walk_at "almono") efits_none ?_)
local macro_rules | `(tactic| walk_at "al") => `(tactic| repeat (first | walk_at "al1" | with_reducible refine as_seq ?_ | with_reducible refine ae_tup ?_ | with_reducible walk_at "alc" | refine ⟨_, rfl, ?_⟩ | walk_at "alds" | refine ⟨_, _, _, _, _, rfl, rfl, rfl, rfl, rfl, ?_⟩))
local macro_rules | `(tactic| walk_at "alF") => `(tactic| repeat (first | walk_at "al1" | with_reducible refine as_seq ?_ | with_reducible refine ae_tup ?_ | with_reducible refine ae_lst ?_ | with_reducible walk_at "alc" | refine ⟨_, rfl, ?_⟩ | walk_at "alds" | refine ⟨_, _, _, _, _, rfl, rfl, rfl, rfl, rfl, ?_⟩))
local macro_rules | `(tactic| walk_at "alo") => `(tactic| repeat (first | walk_at "al1" | with_reducible refine ae_tup ?_ | with_reducible walk_at "alc" | refine ⟨_, rfl, ?_⟩ | walk_at "alds" | refine ⟨_, _, _, _, _, rfl, rfl, rfl, rfl, rfl, ?_⟩))
section
variable {P : Program} {w : World} {K : PySem.W.Frag} {mg : Str → Option Value} {base : Heap} {C_Room C_Web : Addr}
theorem ok_wayBy (DD : DefAt K mg "way_by" (top 22) ["web", "cell", "goal", "known"]) (T : Bt mg) (G_heard_cells : FnAt P w K mg base CX0 2 "heard_cells" ["web", "cell"] (aHeardC C_Room C_Web)) :
    FnAtZ P w K mg base CX0 11 8 "way_by" ["web", "cell", "goal", "known"] pk (aWayBy C_Room C_Web) := by
  refine fnatZ DD sc_way_by (fun d dom kn xs M Φ Ψ h => ?_) (fun b' le z hC f cdv A outer s H E hr => ⟨_, have G_heard_cells := G_heard_cells.lift le; (pss_cons (ps_set (i := 4) sc_way_by.nd rfl (Or.inl rfl) (pe_lst (pa_cons (pe_lockV (pe_dispD hr.units (pps_cons (pv 1) pe_non pps_nil) rfl rfl (by simp) (by decide))) pa_nil))) (pss_cons (ps_while PassesOwn.never (PW.pt (pw_and (pt_cmpR op_ge (pe_op op_sub (pe_ix (k_ix K) (pv 1) pe_int (fun _ _ => rfl)) (pe_callB (k_len K) (by rfl) T.len (by decide +kernel) (pa_cons (pv 4) pa_nil))) (pe_ix (k_ix K) (pv 2) pe_int (fun _ _ => rfl)) (nomark _)) (pw_and1 (pt_cmpR (k_ne0 hr.units) (pe_ix (k_ix K) (pv 4) (pe_un un_neg pe_int) (fun _ _ => rfl)) (pe_lockV pe_dnewT) (nomark _))))) (pss_cons (ps_set (i := 5) sc_way_by.nd rfl (Or.inl rfl) (pe_ix (k_ix K) (pv 4) (pe_un un_neg pe_int) (fun _ _ => rfl))) (pss_one (ps_expr (pe_bmK K PySem.F.plainAttrs_list PySem.F.slot_list_append PySem.F.type_list_append mt_append (pv 4) (pa_cons (pe_lockV (pe_dc2D (own := [("one", 6), ("heard", 7)]) (vs2 := [7]) hr.units rfl sc_way_by.nd (pi_keysT (by exact (pv 5))) (blkOk_by (own := [("one", 6), ("heard", 7)]) (N := ["web", "cell", "goal", "known", "layers", "ahead", "one", "heard", "found", "layer"]) (sc := defScope (top 22)) (by decide +kernel)) (by decide) (fun _ _ _ _ _ => by exact (pg_name (i := 6) sc_way_by.nd rfl (Or.inl rfl))) (fun _ _ _ _ _ => by exact (pts_one (pt_not (pt_val (pe_tell (i := 3) z (fun I => hC.at I) (hr.mono (by decide)) pass0 rfl (by first | exact Or.inl rfl | exact Or.inr (Or.inl rfl) | exact Or.inr (Or.inr rfl)) (pa_cons (pv 6) pa_nil)))))) (fun _ _ _ _ _ => by exact (pi_seqK K (by exact (pe_fn G_heard_cells (hr.mono (by decide)) rfl pass0 (pa_cons (pv 0) (pa_cons (pv 6) pa_nil)))))) (fun _ _ _ _ _ => by exact (pg_name (i := 7) sc_way_by.nd rfl (Or.inl rfl))) (fun _ _ _ _ _ => by exact pts_nil) (fun _ _ _ _ _ => by exact (pv 7)) (fun _ _ _ _ _ => by exact (pv 6)))) pa_nil)))))) (pss_cons (ps_if (pt_cmpR (k_notInD hr.units) (pv 2) (pe_ix (k_ix K) (pv 4) (pe_un un_neg pe_int) (fun _ _ => rfl)) (by rfl)) (pss_one (ps_ret pe_non)) pss_nil) (pss_cons (ps_set (i := 8) sc_way_by.nd rfl (Or.inl rfl) (pe_lst (pa_cons (pv 2) pa_nil))) (pss_cons (ps_for PassesOwn.never rfl (pi_seqK K (by exact (pe_sliceR (pv 4) po_none (po_some pe_int) (po_some (pe_un un_neg pe_int))))) (pg_name (i := 9) sc_way_by.nd rfl (Or.inl rfl)) (pss_one (ps_expr (pe_bmK K PySem.F.plainAttrs_list PySem.F.slot_list_append PySem.F.type_list_append mt_append (pv 8) (pa_cons (pe_ix (k_ixD hr.units) (pv 9) (pe_ix (k_ix K) (pv 8) (pe_un un_neg pe_int) (fun _ _ => rfl)) (fun _ _ => rfl)) pa_nil))))) (pss_one (ps_ret (pe_sliceR (pv 8) po_none po_none (po_some (pe_un un_neg pe_int)))))))))), fun B xs M dom kn Φ Ψ hB hT h => ?_⟩)
  · obtain ⟨rs, c, goal, rfl, _⟩ := h
    rfl
  · obtain ⟨rs, c, goal, rfl, rfl, hh, h12, hc, hn, hdom, p, q⟩ := h
    refine as_seq <| as_asgN <| ae_lstM <| aa_cons <| ae_lockV <| ae_disp1 <| ae_var rfl <| ae_non ⟨key2 c, .non, rfl, rfl, rfl, [], [(key2 c, .non)], rfl, rfl, Nat.le_refl _, (by simp), aa_nil ⟨[dD [(key2 c, .non)]], rfl, Nat.le_of_ble_eq_true rfl, ?_⟩⟩
    refine as_seq <| as_while (n := 1) (fun m σ M => ∃ (ls : List KD) (l : KD) (a5 a6 a7 a8 a9 : Option AV), m = (c.2 - goal.2).toNat + 1 - ls.length ∧ 1 ≤ ls.length ∧ ls.length ≤ (c.2 - goal.2).toNat + 1 ∧ LayD (ears rs) kn c ls ∧ ls[ls.length - 1]? = some l ∧ (l.map Prod.fst).Nodup ∧
        M = [.lst (ls.map dD)] ∧ σ = [some (.d (webV C_Room C_Web rs)), some (.d (pk c)), some (.d (pk goal)), some (.d z.d), some (.m 0), a5, a6, a7, a8, a9]) (by rintro _ _ _ ⟨ls, l, a5, a6, a7, a8, a9, _, _, _, _, _, _, rfl, _⟩; rfl) ((c.2 - goal.2).toNat + 1 - 1)
      ⟨[[(key2 c, .non)]], [(key2 c, .non)], none, none, none, none, none, rfl, Nat.le_refl _, Nat.le_add_left .., ⟨rfl, fun i l l' _ h2 => by simp at h2, fun i l l' _ h2 => by simp at h2, fun l hl p hp => by
        rw [List.mem_singleton.mp hl] at hp
        exact ⟨c, by rw [List.mem_singleton.mp hp]⟩⟩, rfl, by simp, rfl, rfl⟩ ?_
    rintro m σ' M' ⟨ls, l, a5, a6, a7, a8, a9, rfl, hl1, hln, L, hl, hnd, rfl, rfl⟩
    have hlast : atI (ls.map dD) (-1) = some (dD l) := atI_last (n := ls.length - 1) (by rw [List.length_map]; omega) (by rw [List.getElem?_map, hl]; rfl)
    have iffL := L.iff _ l hl
    have hlm : l ∈ ls := List.mem_of_getElem? hl
    obtain ⟨cs, ecs, lcs, ncs, mcs⟩ := keys_cellsD (L.ks l hlm)
    have ncs := ncs hnd
    have inR : ∀ {k : Nat} {a : Cell}, AtD (ears rs) kn c k a → 0 ≤ a.1 ∧ a.1 < rs.length := fun {k a} h => by
      cases h with
      | top => exact hc
      | dn _ _ hj => exact (ears_in hh).1 _ hj
    have few : cs.length ≤ rs.length := lay_few (b := c.2 - ((ls.length - 1 : Nat) : Int)) ncs fun a ha => by
      have h1 := (iffL a).mp ((mcs a).mp ha)
      exact ⟨inR h1, h1.beat⟩
    refine at_val (b := decide (goal.2 ≤ c.2 - ls.length) && !l.isEmpty) (at_and <| at_test <| ae_op <| ae_op <| ae_op <| ae_var rfl <| ae_int <| ur_ixK (k := .inl c.2) rfl <| ae_cb <| aa_cons <| ae_var rfl <| aa_nil <| uc_len (.mm rfl) <| ar_i0 <| ae_op <| ae_var rfl <| ae_int <| ur_ixK (k := .inl goal.2) rfl <| ar_b0 ⟨_, rfl, ?_, ?_⟩) ⟨?_, ?_⟩
    · intro hb
      rw [List.length_map] at hb
      rw [hb, Bool.true_and]
      exact at_test <| ae_op <| ae_op <| ae_var rfl <| ae_un <| ae_int <| au_i <| ur_ixM rfl hlast <| ae_lockV <| ae_newD ⟨[.lst (ls.map dD)], [], rfl, rfl, Nat.le_refl _, (by simp [MO.below]), ar_ne0 (.d l) (.d []) ⟨_, rfl, rfl, rfl⟩⟩
    · intro hb
      rw [List.length_map] at hb
      rw [hb]
      exact ⟨rfl, rfl⟩
    · -- one layer more
      intro hb
      obtain ⟨hb1, hb2⟩ := Bool.and_eq_true_iff.mp hb
      have hb1 := of_decide_eq_true hb1
      refine as_seq <| as_asgN <| ae_op <| ae_var rfl <| ae_un <| ae_int <| au_i <| ur_ixM rfl hlast ?_
      have hsum := dn_sum hh (kn := kn) cs
      refine as_drop <| ae_append <| ae_var rfl ⟨0, _, rfl, rfl, aa_cons <| ae_lockV <| ae_dfmap2 (l := cs.map pk) (fun d e => (keyW e, d)) (fun d => !kn (cellD d)) (fun d => (ears rs (cellD d).1).map fun j => pk (j, (cellD d).2 - 1)) (by simp [MO.below]) (gk_name rfl) (gk_name rfl) (by rw [sizeLine_eq]; omega)
        (ai_keysT <| ae_var rfl ⟨l, rfl, rfl, ecs, ⟨[.lst (ls.map dD)], _, rfl, rfl, Nat.le_refl _, (by simp [MO.below]), aa_nil ⟨_, _, rfl, rfl, ?_, ?_⟩⟩⟩) fun d hd acc => ?_⟩
      · rw [List.length_map, sizeLine_eq]; omega
      · rw [← ecs]
        have L2 := L.more hl
        refine ⟨by simp [MO.below], (c.2 - goal.2).toNat + 1 - (ls.length + 1), by omega, ls ++ [layDn (ears rs) kn l], layDn (ears rs) kn l, _, _, _, _, _, by rw [List.length_append]; rfl, by rw [List.length_append]; exact Nat.le_add_left .., by rw [List.length_append, List.length_singleton]; omega, L2, by rw [List.length_append, List.length_singleton, Nat.add_sub_cancel, List.getElem?_append_right (Nat.le_refl _), Nat.sub_self]; rfl, storG_nodupD List.nodup_nil, ?_, rfl⟩
        show [MO.lst (ls.map dD ++ [dD _])] = _
        rw [List.map_append]
        rfl
      · obtain ⟨one, hone, rfl⟩ := List.mem_map.mp hd
        have hat := (iffL one).mp ((mcs one).mp hone)
        obtain ⟨r0, r1⟩ := inR hat
        refine ag_name <| at_not <| at_test <| ae_tell hT rfl <| aa_cons <| ae_var rfl <| aa_nil ⟨one, rfl, hdom _ hat.need, List.nil_prefix, _, rfl, rfl, rfl, fun hk => ?_⟩
        refine ai_seqL <| ae_call0 (Ψ := fun _ _ => False) mono_heardC efits_none <| aa_cons <| ae_var rfl <| aa_cons <| ae_var rfl <| aa_nil <| sent0 (ys := [webV C_Room C_Web rs, pk one]) mono_heardC ⟨rs, one, rfl, rfl, hh, r0, r1, rfl, _, rfl, _, rfl, rfl, rfl, fun e he acc => ?_⟩
        obtain ⟨o2, ho2, rfl⟩ := List.mem_map.mp he
        exact ag_name <| ae_var rfl ⟨rfl, ae_var rfl ⟨rfl, rfl⟩⟩
    · -- the end
      intro hb
      have hend : ∀ k, AtD (ears rs) kn c k goal → k = ls.length - 1 := fun k hk => by
        have hbt := hk.beat
        rcases Bool.and_eq_false_iff.mp hb with z | z
        · have z := of_decide_eq_false z
          omega
        · have hl0 : l = [] := by simpa using z
          obtain ⟨a, ha⟩ := hk.up (ls.length - 1) (by omega)
          have := (iffL a).mpr ha
          rw [hl0] at this
          cases this
      refine as_seq <| as_if <| at_test <| ae_op <| ae_var rfl <| ae_op <| ae_var rfl <| ae_un <| ae_int <| au_i <| ur_ixM rfl hlast <| ar_inF (neg := true) ⟨_, rfl, fun hnot => ?_, fun hin => as_next ?_⟩
      · refine as_ret <| ae_non ?_
        have hq := q fun hneed => by
          obtain ⟨k, hk⟩ := need_atD hneed
          have e := hend k hk
          subst e
          have := (iffL goal).mpr hk
          have hnot : (!(valG l (key2 goal)).isSome) = true := hnot
          rw [this] at hnot
          cases hnot
        exact rt_preC (M := []) (r := [.lst (ls.map dD)]) (fun o ho => nomatch ho) hq
      · have hin : (valG l (key2 goal)).isSome = true := by
          have hin : (!(valG l (key2 goal)).isSome) = false := hin
          simpa using hin
        obtain ⟨way, w1, w2, w3, w4⟩ := L.way _ l goal hl hin
        refine as_seq (as_asgN (ae_lstM (aa_cons (ae_var rfl (aa_nil ⟨[pk goal], rfl, Nat.le_of_ble_eq_true rfl, ?_⟩)))))
        have wt : way.take 1 = [goal] := by
          cases way with
          | nil => cases w2
          | cons a way => rw [List.getElem?_cons_zero] at w2; cases w2; rfl
        refine as_seq (as_for (n := 2) (fun i σ M => M = [.lst (ls.map dD), .lst ((way.take (i + 1)).map pk)] ∧ ∃ a5 a6 a7 a9, σ = [some (.d (webV C_Room C_Web rs)), some (.d (pk c)), some (.d (pk goal)), some (.d z.d), some (.m 0), a5, a6, a7, some (.m 1), a9]) (by rintro _ _ _ ⟨rfl, _⟩; rfl)
          (ai_seqL <| ae_sliceR <| ae_var rfl ⟨ls.map dD, .inr ⟨0, rfl, rfl⟩, ao_none ⟨rfl, ao_some <| ae_int ⟨0, rfl, rfl, ao_some <| ae_un <| ae_int <| au_i ⟨-1, rfl, rfl, rfl, .inr rfl, rfl, _, rfl, ⟨by rw [wt]; rfl, a5, a6, a7, a9, rfl⟩, ?_, ?_⟩⟩⟩⟩))
        · rintro i d' σ' M' hi ⟨rfl, a5, a6, a7, a9, rfl⟩
          obtain ⟨i1, i2⟩ := downW_at hi
          rw [List.length_map] at i1 i2
          rw [List.getElem?_map] at i2
          obtain ⟨l1, hl2, rfl⟩ := Option.map_eq_some_iff.mp i2
          have ha : way[i]? = some (way[i]'(by omega)) := List.getElem?_eq_getElem _
          have hb' : way[i + 1]? = some (way[i + 1]'(by omega)) := List.getElem?_eq_getElem _
          obtain ⟨_, l', hl3, hv⟩ := w4 i _ _ ha hb'
          rw [hl2] at hl3
          cases hl3
          have ht : (way.take (i + 1)).length = i + 1 := by rw [List.length_take]; omega
          have hlast2 : atI ((way.take (i + 1)).map pk) (-1) = some (pk (way[i]'(by omega))) := atI_last (n := i) (by rw [List.length_map, ht]) (by rw [List.getElem?_map, List.getElem?_take, if_pos (by omega), ha]; rfl)
          refine ag_name <| as_drop <| ae_append <| ae_var rfl ⟨1, _, rfl, rfl, aa_cons <| ae_op <| ae_var rfl <| ae_op <| ae_var rfl <| ae_un <| ae_int <| au_i <| ur_ixM rfl hlast2 <| ar_getF hv <| aa_nil ⟨_, _, rfl, rfl, ?_, ?_⟩⟩
          · rw [List.length_map, ht, sizeLine_eq]; omega
          · refine ⟨by simp [MO.below], ?_, _, _, _, _, rfl⟩
            show [MO.lst _, .lst ((way.take (i + 1)).map pk ++ [pk _])] = _
            rw [List.take_add_one (i := i + 1), hb', List.map_append]
            rfl
        · rintro σ' M' ⟨rfl, a5, a6, a7, a9, rfl⟩
          have el : (downD (ls.map dD) (some 0)).length + 1 = way.length := by
            show ((ls.map dD).drop 1).reverse.length + 1 = _
            rw [List.length_reverse, List.length_drop, List.length_map]
            omega
          rw [el, List.take_length]
          refine as_ret <| ae_sliceRM <| ae_var rfl ⟨way.map pk, .inr ⟨1, rfl, rfl⟩, ao_none ⟨rfl, ao_none ⟨rfl, ao_some <| ae_un <| ae_int <| au_i ⟨-1, rfl, rfl, rfl, .inl rfl, rfl, ?_⟩⟩⟩⟩
          have er : downD (way.map pk) none = way.reverse.map pk := by rw [List.map_reverse]; rfl
          rw [er]
          exact rt_new (M := []) (r := [.lst (ls.map dD), .lst (way.map pk), .lst (way.reverse.map pk)]) (fun o ho => nomatch ho) (Nat.zero_le _) rfl (p way.reverse (rev_way w1 w2 w3 fun i x y hx hy => (w4 i x y hx hy).1) (by rw [List.length_reverse]; omega))
theorem ok_way {c Pt : Addr} {kws : List KwE} (DD : DefAtK K mg "way" (top 23) ["web", "cell", "goal", "pokes"] (.ref c) kws) (T : Bt mg) (L_way : LamAt base mg c Pt "way.<locals>.<lambda>")
    (G_is_known : FnAt P w K mg base CX0 1 "is_known" ["cell", "pokes"] aKnown) (G_way_by : FnAtZ P w K mg base CX0 11 8 "way_by" ["web", "cell", "goal", "known"] pk (aWayBy C_Room C_Web)) :
    FnAtK P w K mg base (L2.CX P w) 17 "way" ["web", "cell", "goal", "pokes"] (aWay C_Room C_Web) kws := by
  refine fnatXK DD sc_way (fun xs M Φ Ψ h => ?_) (fun f A outer s H E hr => ⟨_, have hC0 : AllB [] base := (fun _ h => nomatch h); (pss_one (ps_ret (pe_fnZ (fr := ["pokes"]) (js := [3]) (cl := _) (wayZ G_is_known _) G_way_by (fun _ _ _ => rfl) (fun _ => rfl) (fun ok => NdefX.Caps.made (scope := lsc_way) ok (NdefX.ndef_free (sc := defScope (top 23)) (fr := ["pokes"]) (by decide +kernel)) (NdefX.ndef_fr (sc := defScope (top 23)) (fr := ["pokes"]) (by decide +kernel)) rfl) hC0 (hr.mono (by decide)) rfl pass0 (pa_cons (pv 0) (pa_cons (pv 1) (pa_cons (pv 2) (pa_cons (pe_lamV L_way rfl rfl rfl (NdefX.ndef_free (sc := defScope (top 23)) (fr := ["pokes"]) (by decide +kernel))) pa_nil))))))), fun B xs M Φ Ψ hB h hE => ?_⟩)
  · obtain ⟨rs, c, goal, pm, d, rfl, _⟩ := h
    rfl
  · obtain ⟨rs, c, goal, pm, d, rfl, rfl, hp, hh, h12, hc, hn, p, q⟩ := h
    refine as_ret <| ae_fnZ (caps := [.d d]) (dz := fun f c' => lamD f c' ⟨"way.<locals>.<lambda>", lamP lamY, lamB lamY, lamS lamY, _, c'⟩) (fun _ _ _ => mono_wayBy) (fun _ _ _ => rfl) rfl ?_
    refine aa_cons <| ae_var rfl <| aa_cons <| ae_var rfl <| aa_cons <| ae_var rfl <| aa_cons <| ae_lamV L_way.mem fun lf lc => aa_nil ⟨lf, lc, 0, fun _ => True, knB pm, Nat.zero_le _, by simp, rfl, fun W1 μ1 wsv e1 e2 rc => tells_known hp (ras_isD2 rc rfl), rs, c, goal, rfl, rfl, hh, h12, hc, hn, (fun _ _ => True.intro), fun ws hw hl => Or.inr ⟨_, rfl, rfl, ?_⟩, fun z => Or.inl ⟨rfl, _, rfl, ?_⟩⟩
    · exact rt_new (M := []) (r := [.lst (ws.map pk)]) Closed.nil (Nat.zero_le _) rfl (p ws hw hl)
    · exact rt_d (q z)
end
end Wd
namespace Al
open PySem PySem.Spec PyProof.Rows L2 Gx Lm Cb NdefX Dt
end Al
namespace Al
open PySem PySem.Spec PyProof.Rows L2 Gx Lm Cb NdefX Dt
variable [Al.TabList]
theorem RAs.set {K : PySem.W.Frag} {W : Hp} {μ : List Addr} {d : AV} {v : V} (h : RA K W μ d v) : ∀ {l : List AV} {vs : List V} (i : Nat), RAs K W μ l vs → RAs K W μ (l.set i d) (vs.set i v)
  | [], _, _, q => by cases q; exact rfl
  | x :: l, _, 0, ⟨y, r, e1, a, t⟩ => by subst e1; exact ⟨v, r, rfl, h, t⟩
  | x :: l, _, i + 1, ⟨y, r, e1, a, t⟩ => by subst e1; exact ⟨y, _, rfl, a, RAs.set h i t⟩
end Al
namespace Hs
open PySem PySem.Spec PyProof.Rows L2 Dt
end Hs
namespace Hs
open PySem PySem.Spec PyProof.Rows L2 Dt
def putsK (kvs more : List (List Key × V)) : List (List Key × V) := more.foldl (fun acc p => L2.putK acc p.1 p.2) kvs
theorem putsK_len : ∀ (more kvs : List (List Key × V)), (putsK kvs more).length ≤ kvs.length + more.length
  | [], _ => Nat.le_refl _
  | p :: more, kvs => by
    have h1 := putsK_len more (L2.putK kvs p.1 p.2)
    have h2 := length_putK kvs p.1 p.2
    show (putsK (L2.putK kvs p.1 p.2) more).length ≤ _
    rw [List.length_cons]
    omega
theorem kt_puts {H : Hp} : ∀ {more : List (List Key × V)} {ys : List (List Key × Addr × Value)}, KT H more ys → ∀ {kvs : List (List Key × V)} {xs : List (List Key × Addr × Value)}, KT H kvs xs → KT H (putsK kvs more) (storedAllH xs ys)
  | _, _, .nil, _, _, r => r
  | _, _, .cons (a := p) (b := y) h t, kvs, xs, r => by
    have z := r.put p.1 (b := y.2.1) h.2.1 h.2.2
    rw [h.1] at z
    have := kt_puts t z
    show KT H (putsK (L2.putK kvs p.1 p.2) _) (storedAllH (storedH xs y.1 y.2.1 y.2.2) _)
    rw [h.1]
    exact this
section
variable {X : Cx}
/-- d.update(e) -/
def rUpdT : V → List V → Hp → VK → Prop := fun x vs H Q => ∃ (a b : Addr) (kvs more : List (List Key × V)), x = .ref a ∧ vs = [.ref b] ∧ a ≠ b ∧ H a = some (.dT kvs) ∧ Rd H b (.dT more) ∧ kvs.length + more.length ≤ sizeLine ∧
  (kvs ≠ [] ∨ ∃ ps : List (Int × Int), more.map Prod.fst = ps.map key2 ∧ (ps.map hash2).Nodup) ∧ Q .non (upd H a (.dT (putsK kvs more)))
theorem mt_updT (hu : X.A.units + 64 < cLine) : MtR X "dict.update" rUpdT := by
  intro pins s σ H x xs v us Q I rx rs h
  obtain ⟨a, b, kvs, more, rfl, rfl, hab, ea, eb, hz, hap, q⟩ := h
  obtain rfl : v = Value.ref a := rx
  obtain ⟨u1, rfl, r1⟩ := vals1 rs
  obtain rfl : u1 = Value.ref b := r1
  obtain ⟨za, ha, xs, ra, da⟩ := dt_of I.hok ea
  obtain ⟨zb, hb, ys, rb, db⟩ := dt_rd I.hok eb
  have la := Paired.length ra
  have lb := Paired.length rb
  refine call_meetsIn PySem.F.slot_dict_update da.typeIs PySem.F.entry_dict_update (PySem.F.args_dict_update_2 _ _) (S := fun A R s' => A = X.A ∧ s' = s ∧ ∀ h', h'.DictOfH (tupleKind (mixKind X.prog X.w)) a (storedAllH xs ys) → Heap.SameBut a s.heap h' → R (.ok (.ret .none)) { s with heap := h' }) (fun A R s' ⟨eA, es, hR⟩ => ?_) ⟨rfl, rfl, fun h' dd hs => ?_⟩
  · subst eA; subst es
    unfold Builtin.«dict.update»
    refine wpAny_bind ?_
    unfold Builtin.Dict.selfAndRest
    refine wpAny_bind (wpAny_notOrdered_dict da.typeIs (wpAny_pure ?_))
    show wpAny _ _ (Builtin.Dict.updateFrom "dict.update" a (.ref b) [] .none) _ _ s'
    refine updateFrom_dictH .none (tupleKind_room_in1 (by omega)) hab hb da db ?_ (by omega) fun h' d1 _ d3 => hR h' d1 d3
    rcases hap with hap | ⟨ps, hk, hn⟩
    · refine .inl fun z => hap ?_
      have : kvs.length = 0 := by rw [la, z]; rfl
      exact List.eq_nil_of_length_eq_zero this
    · refine .inr ⟨fun y hy => ?_, ?_⟩
      · obtain ⟨i, hi⟩ := List.mem_iff_getElem?.mp hy
        obtain ⟨p, _, _, h0, _⟩ := KT.get rb hi
        exact (key_of I.hok h0).typeIs
      · have e : (ys.map fun x => (tupleKind (mixKind X.prog X.w)).hash x.1) = ps.map hash2 := by
          rw [show (fun x : List Key × Addr × Value => (tupleKind (mixKind X.prog X.w)).hash x.1) = (tupleKind (mixKind X.prog X.w)).hash ∘ Prod.fst from rfl, ← List.map_map, KT.fst rb, hk, List.map_map]
          rfl
        rw [e]
        exact hn
  · obtain ⟨o2, es, ep, hq, h2, h3, h4, _, h5⟩ := dd
    have hl := putsK_len more kvs
    refine ⟨.non, upd H a (.dT (putsK kvs more)), d_write (ob := .dT (putsK kvs more)) (t' := s.toks) I (by rw [ea]; exact True.intro) hs ⟨o2, hq⟩ ⟨by omega, ha, _, (kt_puts rb ra).keeps fun c ys ec => ?_, o2, es, ep, hq, h2, h3, h4, h5⟩, rfl, q⟩
    rw [upd_ne (ne_of ec ea (fun z => nomatch z))]
    exact ec
end
end Hs
namespace Al
open PySem PySem.Spec PyProof.Rows L2 Gx Lm Cb NdefX Dt Hs
variable [Al.TabList]
def putsG (kvs more : KD) : KD := more.foldl (fun acc p => putG acc p.1 p.2) kvs
section
variable {K : PySem.W.Frag} {W : Hp}
theorem RK.puts : ∀ {more : KD} {cm : List (List Key × V)}, RK K W more cm → ∀ {kvs : KD} {cvs : List (List Key × V)}, RK K W kvs cvs → RK K W (putsG kvs more) (putsK cvs cm)
  | [], [], _, _, _, r => r
  | [], _ :: _, h, _, _, _ => h.elim
  | _ :: _, [], h, _, _, _ => h.elim
  | p :: more, q :: cm, ⟨h1, h2, h3⟩, kvs, cvs, r => by
    have z := r.put (k := p.1) h2
    show RK K W (putsG (putG kvs p.1 p.2) more) (putsK (L2.putK cvs q.1 q.2) cm)
    rw [← h1]
    exact RK.puts h3 z
theorem RK.keys {kvs : KD} {cvs : List (List Key × V)} (h : RK K W kvs cvs) : cvs.map Prod.fst = kvs.map Prod.fst := by
  have e := h.back.1
  rw [e]
  have hl := h.len
  rw [List.map_fst_zip]
  rw [List.length_map, List.length_map]
  omega
end
end Al
namespace Dt
open PySem PySem.Spec PyProof.Rows L2
section
variable {X : Cx}
theorem pairsT_of {pins : List (Addr × Obj)} {σ : L2.St} {H : Hp} {s : Shared} (I : Inv X pins σ H s) : ∀ {tps : List Addr} {kvs : List (List Key × V)}, Paired (fun p kv => ∃ b, SqT X.K H p [V.ref b, kv.2] ∧ H b = some (.tup (kv.1.map kV))) tps kvs →
    ∃ rs : List (List Key × Addr × Value), KT H kvs rs ∧ rs.length = tps.length ∧ ∀ (j : Nat) (x : List Key × Addr × Value), rs[j]? = some x → ∃ p : Addr, tps[j]? = some p ∧ IsTup s.heap p #[.ref x.2.1, x.2.2]
  | _, _, .nil => ⟨[], .nil, rfl, fun j x e => by simp at e⟩
  | _, _, .cons (a := p) (b := kv) h t => by
    obtain ⟨rs, r, hl, hp⟩ := pairsT_of I t
    obtain ⟨b, h1, h2⟩ := h
    obtain ⟨its, rv, ht, _⟩ := I.tuple h1
    obtain ⟨u, y, ei, ru, ry⟩ := vals2 rv
    subst ei
    obtain rfl : u = Value.ref b := ru
    refine ⟨(kv.1, b, y) :: rs, .cons ⟨rfl, h2, ry⟩ r, by rw [List.length_cons, List.length_cons, hl], fun j x e => ?_⟩
    cases j with
    | zero =>
      have e' : (kv.1, b, y) = x := Option.some.inj e
      subst e'
      exact ⟨p, rfl, ht⟩
    | succ j =>
      obtain ⟨q, e1, e2⟩ := hp j x (by simpa using e)
      exact ⟨q, by simpa using e1, e2⟩
/-- dict(xs) of a list of pairs (key, value) -/
def rDictP (K : PySem.W.Frag) : List V → Hp → VK → Prop := fun xs H Q => ∃ (a : Addr) (tps : List Addr) (kvs : List (List Key × V)), xs = [.ref a] ∧ SqL K H a (tps.map V.ref) ∧ Paired (fun p kv => ∃ b, SqT K H p [V.ref b, kv.2] ∧ H b = some (.tup (kv.1.map kV))) tps kvs ∧ ∀ p, H p = none → Q (.ref p) (upd H p (.dT (mergeT [] kvs)))
theorem k_dictP (K : PySem.W.Frag) (hu : X.A.in1.units + 1 < cLine) (hcalm : X.calm = true) (hK : X.K = K := by rfl) : CallR X (.type "dict") (rDictP K) := by
  subst hK
  intro pins s σ H xs us Q I r q
  obtain ⟨a, tps, kvs, ex, hq, hp, q⟩ := q
  subst ex
  obtain ⟨u, eu, rx⟩ := vals1 r
  subst eu
  cases rx
  obtain ⟨its, rv, pl, hz⟩ := I.list hq
  have ei := refs_at rv
  subst ei
  rw [List.length_map] at hz
  obtain ⟨rs, rel, hl, hpr⟩ := pairsT_of I hp
  obtain ⟨o, n, ho, hc, hd, hdat⟩ := pl
  have hps : PairItems s.heap ((tps.map Value.ref).toArray) (fun j => tps.getD j 0) (rs.map fun x => (Value.ref x.2.1, x.2.2)) := by
    refine ⟨by simp [hl], fun j k v e => ?_⟩
    rw [List.getElem?_map] at e
    obtain ⟨x, hx, e2⟩ := Option.map_eq_some_iff.mp e
    cases e2
    obtain ⟨p, e1, ht⟩ := hpr j x hx
    refine ⟨?_, .inl ?_⟩
    · simp [e1, List.getD]
    · have ej : tps.getD j 0 = p := by simp [List.getD, e1]
      show s.heap.IsTuple (tps.getD j 0) _
      rw [ej]
      exact ht
  have hkey : ∀ x ∈ rs, H x.2.1 = some (.tup (x.1.map kV)) := fun x hx => by
    obtain ⟨i, hi⟩ := List.mem_iff_getElem?.mp hx
    obtain ⟨p, _, _, h, _⟩ := KT.get rel hi
    exact h
  refine call_dict_pairsH (knd := tupleKind (mixKind X.prog X.w)) (ps := rs) (PairArg.list a _ _ _) (I.ok.hd hcalm) ?hu ⟨⟨o, n, ho, hc, hd, hdat⟩, hps⟩ ⟨by rw [List.length_map], fun i key v e => ?_⟩ (fun h' k x hx => ?_) (by rw [List.length_map, hl]; exact hz) fun h' tk hd' k => ?_
  case hu => exact tupleKind_room_in1 hu
  · have e : (rs.map fun x => (Value.ref x.2.1, x.2.2))[i]? = some (key, v) := e
    rw [List.getElem?_map] at e
    obtain ⟨x, hx, e2⟩ := Option.map_eq_some_iff.mp e
    cases e2
    exact ⟨x.1, x.2.1, hx, rfl⟩
  · obtain ⟨o2, it, n2, g, r2⟩ := key_of (w := X.w) I.hok (hkey x hx)
    exact ⟨o2, it, n2, k _ _ (Nat.ne_of_lt (Heap.lt_size g)) (fun z => nomatch z) g, r2⟩
  · have hm : (s.heap.objs.size == sysModules) = false := beq_eq_false_iff_ne.mpr (Nat.ne_of_gt I.big)
    have km : KT H (mergeT [] kvs) (storedAllH [] rs) := KT.merge rel .nil
    obtain ⟨oo, es, ep, g1, g2, g3, g4, g5, g6⟩ := hd'
    have hlen : (mergeT [] kvs).length ≤ sizeLine := by
      rw [Paired.length km]
      have := storedAllH_length rs ([] : List (List Key × Addr × Value))
      rw [List.length_nil] at this
      omega
    refine ⟨.ref s.heap.objs.size, upd H s.heap.objs.size (.dT (mergeT [] kvs)), I.laid (t' := tk) (fun b o e => k b o (fun z => nomatch z) e) (Nat.le_refl _) ⟨hlen, hm, storedAllH [] rs, km.keeps fun b ys hb => ?_, oo, es, ep, g1, g2, g3, g4, g6⟩, rfl, q _ (I.hok.fresh (Nat.le_refl _))⟩
    rw [upd_ne (ne_of_none hb (I.hok.fresh (Nat.le_refl _)))]
    exact hb
end
end Dt
namespace Al
open PySem PySem.Spec PyProof.Rows L2 Gx Dt
variable [Al.TabList]
section
variable {B : Base} {K : PySem.W.Frag} {σ : AEnv} {M : List MO} {x y : AV} {Φ : AV → List MO → Prop}
theorem pairs_run {W H : Hp} (sw : Same W H) : ∀ {ps : List (List Key × D)} {vs : List V}, RDs K W (ps.map fun p => D.tup [.key p.1, p.2]) vs →
    ∃ (tps : List Addr) (cvs : List (List Key × V)), vs = tps.map V.ref ∧ Paired (fun p kv => ∃ b, SqT K H p [V.ref b, kv.2] ∧ H b = some (.tup (kv.1.map kV))) tps cvs ∧ RK K W ps cvs
  | [], vs, h => by cases h; exact ⟨[], [], rfl, .nil, trivial⟩
  | p :: ps, vs, h => by
    obtain ⟨v, r, rfl, h1, t⟩ := h
    obtain ⟨tps, cvs, rfl, pr, rk⟩ := pairs_run sw t
    obtain ⟨a, us, rfl, hs, hu⟩ := h1
    obtain ⟨v1, r1, rfl, hk, hu⟩ := hu
    obtain ⟨v2, r2, rfl, hd, hu⟩ := hu
    cases hu
    obtain ⟨b, rfl, hb⟩ := hk
    exact ⟨a :: tps, (p.1, v2) :: cvs, rfl, .cons ⟨b, sqt_mono sw hs, sw _ _ hb⟩ pr, rfl, hd, rk⟩
theorem RK.stor {W : Hp} : ∀ {ps : List (List Key × D)} {cm : List (List Key × V)}, RK K W ps cm → ∀ {kvs : KD} {cvs : List (List Key × V)}, RK K W kvs cvs → RK K W (storG kvs ps) (mergeT cvs cm)
  | [], [], _, _, _, h => h
  | [], _ :: _, h, _, _, _ => h.elim
  | _ :: _, [], h, _, _, _ => h.elim
  | p :: ps, c :: cm, ⟨h1, h2, h3⟩, kvs, cvs, h => by
    show RK K W (storG (putG kvs p.1 p.2) ps) (mergeT (L2.putK cvs c.1 c.2) cm)
    rw [← h1]
    exact RK.stor h3 (RK.put h2 h)
/-- dict([(k, v), ..]) -/
theorem uc_dictP {ps : List (List Key × D)} (h : SV M x (ps.map fun p => D.tup [.key p.1, p.2])) (k : Φ (.m M.length) (M ++ [dM (storG [] ps)])) : AC B K (rDictP K) [x] M Φ := fun W μ H us o s r Q q => by
  obtain ⟨v, rfl, r'⟩ := ra_one r
  obtain ⟨a, vs, rfl, h1, h2⟩ := h.run s r'
  obtain ⟨tps, cvs, rfl, pr, rk⟩ := pairs_run s.sub h2
  refine ⟨a, tps, cvs, rfl, h1, pr, fun p hp => ?_⟩
  have rk2 : RK K W (storG [] ps) (mergeT [] cvs) := RK.stor rk (show RK K W ([] : KD) [] from trivial)
  have g := go_mut (mo := dM (storG [] ps)) (u := .dT (mergeT [] cvs)) o s hp (dM_ok upd_same rk2)
  refine q _ _ _ _ _ _ k g ⟨p, ?_, rfl⟩
  rw [← s.len, List.getElem?_append_right (Nat.le_refl _), Nat.sub_self]; rfl
end
end Al
namespace Al
open PySem PySem.Spec PyProof.Rows L2 Gx Dt Hs
theorem k_dictPD {X : Cx} (hu : X.A.units + 64 < cLine) (hcalm : X.calm = true := by rfl) : CallR X (.type "dict") (rDictP X.K) := k_dictP X.K (by show X.A.units + 1 + 1 < cLine; omega) hcalm
variable [Al.TabList]
section
variable {B : Base} {K : PySem.W.Frag} {σ : AEnv} {M : List MO} {t : TA} {ta tb te to : TE} {x y : AV} {Φ : AV → List MO → Prop}
theorem ae_updTF (h : AE B K to σ M fun x M1 => ∃ k kv0, x = .m k ∧ M1[k]? = some (dM kv0) ∧ AA B K t σ M1 fun ys M2 => ∃ kvs more, ys = [.d (dD more)] ∧ M2[k]? = some (dM kvs) ∧ kvs.length + more.length ≤ sizeLine ∧
    (kvs ≠ [] ∨ ∃ ps : List (Int × Int), more.map Prod.fst = ps.map key2 ∧ (ps.map hash2).Nodup) ∧ Φ (.d .non) (M2.set k (dM (putsG kvs more)))) : AE B K (tBM K "dict" rUpdT to t) σ M Φ := fun W μ H τ o s e Q q =>
  h W μ H τ o s e _ fun x M1 W1 μ1 H1 v ⟨k, kv0, e1, e2, p⟩ f1 r1 => by
    subst e1
    obtain ⟨a, ha, rfl⟩ := r1
    obtain ⟨cv0, h0, _⟩ := dM_at f1.sim ha e2
    refine ⟨.inr (.inr (.inl ⟨rfl, .inr ⟨cv0, h0⟩⟩)), p W1 μ1 H1 τ f1.ok f1.sim (f1.re e) _ fun ys M2 W2 μ2 H2 ws ⟨kvs, more, e3, e4, hz, hap, p2⟩ f2 r2 => ?_⟩
    subst e3
    obtain ⟨v1, rfl, rb⟩ := ra_one r2
    obtain ⟨b, od, cms, rfl, h3, h4⟩ := dD_at rb
    have ha2 : μ2[k]? = some a := by
      obtain ⟨ext, e6⟩ := f2.mext
      rw [e6, List.getElem?_append_left (List.getElem?_eq_some_iff.mp ha).1]
      exact ha
    obtain ⟨cvs, h1, h2⟩ := dM_at f2.sim ha2 e4
    have h3' := f2.sim.sub _ _ h3
    refine ⟨a, b, cvs, cms, rfl, rfl, fun z => ?_, h1, .inr ⟨od, h3'⟩, by rw [← h2.len, ← h4.len]; exact hz, ?_, ?_⟩
    · subst z
      rw [h1] at h3'
      cases h3'
    · rcases hap with hap | ⟨ps, hk, hn⟩
      · exact .inl fun z => hap (List.eq_nil_of_length_eq_zero (by rw [h2.len, z]; rfl))
      · exact .inr ⟨ps, by rw [h4.keys]; exact hk, hn⟩
    · have g := go_set (mo := dM (putsG kvs more)) (u := .dT (putsK cvs cms)) f2.ok f2.sim ha2 (dM_ok upd_same (h4.puts h2))
      exact q _ _ _ _ _ _ p2 ((f1.trans f2).trans g) rfl
end
end Al
namespace PySem
namespace Rgb
open PySem PySem.Spec PyProof.Rows
variable {prog : Program} {w : World} {A : Around} {E : Value → Shared → Prop} {s : Shared}
theorem ext_big {R : Result → Shared → Prop} {r : Addr} {a b : Int} {t u v : Tok} {n : Nat} (hh : A.handled = none) (hr : IsRange s.heap r a b 1 t u v) (hb : Builtin.Range.small a b 1 = false)
    (hn : Builtin.Range.rangeSize a b 1 = n) (hl : n ≤ 2 ^ 24) (S : Addr) (res : Value) (c0 : Nat) (hS : s.heap.get? S = some { cls := .type "list", data := .seq #[] c0 })
    (hR : ∀ h' tk acc' c', (∀ b o, b ≠ S → s.heap.get? b = some o → h'.get? b = some o) → h'.get? S = some { cls := .type "list", dict := none, data := .seq acc' c', slots := #[] } →
      ItemsOf (fun i v => ∃ t, v = .int (a + i * 1) t) acc' n → R (.ok (.ret res)) { s with heap := h', toks := tk }) :
    wpAny (model prog w) A.in1 (Builtin.List.listExtendWith (.ref S) (.ref r) res)
      (fun fin s' => match fin with | .done f => R (.ok f) s' | .again c' => c'.quiet = true ∧ codeAny (model prog w) A c' R s') (fun e s' => R (.error e) s') s := by
  have d1 : S ≠ r := fun e => by rw [e, hr] at hS; simp at hS
  have d2 : S ≠ s.heap.objs.size := Nat.ne_of_lt (Heap.lt_size hS)
  have W := (Walks.longrange (prog := prog) (w := w) (A := A.in1) hh s.heap.objs.size a 1 n).toS
  have go : ∀ (h : Heap) (c1 tk : Nat), IsLongIter h s.heap.objs.size (a + ((0 : Nat) : Int) * 1) ((n : Int) - ((0 : Nat) : Int)) 1 → (∀ b o, b ≠ S → s.heap.get? b = some o → h.get? b = some o) →
      h.get? S = some { cls := .type "list", data := .seq #[] c1 } → codeAny (model prog w) A (.builtin "list.extend.loop" ⟨[.ref S, .ref s.heap.objs.size, res], []⟩) R { s with heap := h, toks := tk } := by
    intro h c1 tk hit hk h1
    refine codeAny_extend_loopS W (by rw [sizeLine_eq]; omega) S (fun hm => d2 (List.mem_singleton.mp hm)) res n 0 _ #[] c1 rfl (Nat.zero_le _) hit h1 (ItemsOf.nil _) fun s' acc' c' hm hS' hacc => ?_
    rw [Moved.eq_with hm]
    refine hR s'.heap s'.toks acc' c' (fun b o hb e => hm.heap b o (fun hmem => ?_) (hk b o hb e)) hS' hacc
    rcases List.mem_cons.mp hmem with e' | hmem
    · exact hb e'
    · exact absurd (Heap.lt_size e) (by rw [List.mem_singleton.mp hmem]; exact Nat.lt_irrefl _)
  unfold Builtin.List.listExtendWith
  refine wpAny_bind (wpAny_typeOf (T := "range") ⟨_, hr, rfl⟩ ?_)
  rw [show Builtin.List.listSameRef (.ref S) (.ref r) = false from by simp [Builtin.List.listSameRef, d1]]
  simp only [show (Value.type "range" == Value.type "list") = false from by decide, show (Value.type "range" == Value.type "tuple") = false from by decide, Bool.or_false, Bool.false_eq_true, if_false]
  refine wpAny_bind (wpAny_pyIter_longrange hr hb ?_)
  refine wpAny_bind (wpAny_holding (wpAny_hint_range (n := n) (Heap.get?_push_of_some _ hr) hn hl ?_))
  have hit : IsLongIter (s.heap.push { cls := .type "longrange_iterator", data := .fields #[rawInt a, rawInt (Builtin.Range.rangeSize a b 1), rawInt 1] }) s.heap.objs.size (a + ((0 : Nat) : Int) * 1) ((n : Int) - ((0 : Nat) : Int)) 1 := by
    show IsLongIter _ _ _ _ _
    rw [hn]
    simpa using Heap.get?_push_size _ rfl
  have h1 := Heap.get?_push_of_some { cls := .type "longrange_iterator", data := .fields #[rawInt a, rawInt (Builtin.Range.rangeSize a b 1), rawInt 1] } hS
  refine wpAny_ite_split (fun _ => ?_) (fun _ => wpAny_pure ⟨plainId_quiet F.plain_extend_loop _, go _ c0 _ hit (fun b o _ e => Heap.get?_push_of_some _ e) h1⟩)
  refine wpAny_bind (wpAny_rule (wpAny_bind ?_))
  show wpAny _ _ (updateSeq S (·.push .none) >>= fun _ => updateSeq S (·.pop)) _ _ _
  refine wpAny_bind (wpAny_updateSeq h1 rfl ?_)
  have h2 := Heap.get?_update_self (Obj.mapSeq (·.push Value.none)) h1 rfl
  refine wpAny_updateSeq (hz := by seq_fits) h2 rfl ?_
  have h3 := Heap.get?_update_self (Obj.mapSeq (·.pop)) h2 rfl
  refine wpAny_pure ⟨plainId_quiet F.plain_extend_loop _, go _ _ _ ?_ (fun b o hb e => ?_) h3⟩
  · exact (Heap.get?_update_other _ _ d2).trans ((Heap.get?_update_other _ _ d2).trans hit)
  · exact (Heap.get?_update_other _ _ (Ne.symm hb)).trans ((Heap.get?_update_other _ _ (Ne.symm hb)).trans (Heap.get?_push_of_some _ e))
theorem init_big {R : Result → Shared → Prop} {r : Addr} {a b : Int} {t u v : Tok} {n : Nat} (hh : A.handled = none) (hr : IsRange s.heap r a b 1 t u v) (hb : Builtin.Range.small a b 1 = false)
    (hn : Builtin.Range.rangeSize a b 1 = n) (hl : n ≤ 2 ^ 24) (S : Addr) (hS : s.heap.get? S = some { cls := .type "list", data := .seq #[] })
    (hR : ∀ h' tk acc' c', (∀ b o, b ≠ S → s.heap.get? b = some o → h'.get? b = some o) → h'.get? S = some { cls := .type "list", dict := none, data := .seq acc' c', slots := #[] } →
      ItemsOf (fun i v => ∃ t, v = .int (a + i * 1) t) acc' n → R (.ok (.ret .none)) { s with heap := h', toks := tk }) :
    wpAny (model prog w) A.in1 (Builtin.«list.__init__» ⟨[.ref S, .ref r], []⟩)
      (fun fin s' => match fin with | .done f => R (.ok f) s' | .again c' => c'.quiet = true ∧ codeAny (model prog w) A c' R s') (fun e s' => R (.error e) s') s := by
  have d1 : S ≠ r := fun e => by rw [e, hr] at hS; simp at hS
  show wpAny _ _ (do let old ← Builtin.List.listItems (.ref S); Builtin.List.listUpdate (.ref S) (fun _ => #[]); letGo old.toList.reverse; Builtin.List.listExtendWith (.ref S) (.ref r) .none) _ _ s
  refine wpAny_bind ?_
  unfold Builtin.List.listItems
  refine wpAny_bind (wpAny_seqItems hS rfl (wpAny_pure ?_))
  show wpAny _ _ (updateSeq S (fun _ => #[]) >>= fun _ => letGo (#[] : Array Value).toList.reverse >>= fun _ => Builtin.List.listExtendWith (.ref S) (.ref r) .none) _ _ s
  refine wpAny_bind (wpAny_updateSeq hS rfl (wpAny_bind (wpAny_letGo ?_)))
  have oth : ∀ b o, b ≠ S → s.heap.get? b = some o → (s.heap.update S (Obj.mapSeq (fun _ => (#[] : Array Value)))).get? b = some o := fun b o hb e => (Heap.get?_update_other _ _ (Ne.symm hb)).trans e
  exact ext_big hh (oth r _ (Ne.symm d1) hr) hb hn hl S .none _ (Heap.get?_update_self (Obj.mapSeq (fun _ => (#[] : Array Value))) hS rfl) fun h' tk acc' c' hk hS' hacc => hR h' tk acc' c' (fun b o hb e => hk b o hb (oth b o hb e)) hS' hacc
theorem call_big {Q : Value → Shared → Prop} {r : Addr} {a b : Int} {t u v : Tok} {n : Nat} (hh : A.handled = none) (hr : IsRange s.heap r a b 1 t u v) (hb : Builtin.Range.small a b 1 = false)
    (hn : Builtin.Range.rangeSize a b 1 = n) (hl : n ≤ 2 ^ 24)
    (hQ : ∀ h' tk acc' c', (∀ b o, s.heap.get? b = some o → h'.get? b = some o) →
      h'.get? s.heap.objs.size = some { cls := .type "list", dict := none, data := .seq acc' c', slots := #[] } → ItemsOf (fun i v => ∃ t, v = .int (a + i * 1) t) acc' n → Q (.ref s.heap.objs.size) { s with heap := h', toks := tk }) :
    wpAny (model prog w) A (call (.type "list") [.ref r]) Q E s := by
  refine callType_codes (Q₁ := fun obj s1 => obj = .ref s.heap.objs.size ∧ s1 = { s with heap := s.heap.push { cls := .type "list", data := .seq #[] } }) F.called_list (F.typeCall_list_1 _) F.entry_list_init
    (code_list_new _ ⟨rfl, rfl⟩) fun obj s1 h1 => ?_
  obtain ⟨rfl, rfl⟩ := h1
  have hS : (s.heap.push { cls := .type "list", data := .seq #[] }).get? s.heap.objs.size = some { cls := .type "list", data := .seq #[] } := Heap.get?_push_size _ rfl
  exact ⟨⟨_, hS, rfl⟩, F.args_list_init_2 _ _, init_big (A := A.in1) hh (Heap.get?_push_of_some _ hr) hb hn hl _ hS fun h' tk acc' c' hk hS' hacc => ⟨rfl, hQ h' tk acc' c' (fun b o e => hk b o (Nat.ne_of_lt (Heap.lt_size e)) (Heap.get?_push_of_some _ e)) hS' hacc⟩⟩
end Rgb
end PySem
namespace L2
open PySem PySem.Spec PyProof.Rows
section
variable {X : Cx} {e : Expr} {te : St → Hp → (Int → Int → Hp → Prop) → Prop}
/-- list(range(a, b)), bounds of any size -/
def tLstRgB (te : St → Hp → (Int → Int → Hp → Prop) → Prop) : TE := fun σ H Q => te σ H fun a b H1 => (b - a).toNat ≤ 2 ^ 24 ∧ ∀ q, H1 q = none → Q (.ref q) (upd H1 q (.lst (rgV a b)))
theorem pe_listRgB {p pos : Pos} (hc : X.calm = true) (hg : Gl X "list") (hm : X.mg "list" = none) (he : PRg X e te) (na : starEach [e] X.env = (false, eval e X.env) :: starEach [] X.env := by rfl) : PE X (.Call (.Name "list" p) [e] [] pos) (tLstRgB te) := by
  refine ⟨fun pins s σ H Q I h => ?_⟩
  refine Call_ (ld_blt I hg hm boot_list (PyProof.Rows.callWith_type1 (args_cons (thn (he pins s σ H _ I h) fun x s1 ⟨r, a, b, t, u, v, H1, ex, hr, I1, b5, q⟩ => args_nil ?_) na) na))
  subst ex
  have fin : ∀ (h' : Heap) (tk : Nat) (acc : Array Value) (c' : Nat), (∀ b o, s1.heap.get? b = some o → h'.get? b = some o) → h'.get? s1.heap.objs.size = some { cls := .type "list", dict := none, data := .seq acc c', slots := #[] } → ItemsOf (fun i v => ∃ t, v = .int (a + i * 1) t) acc (b - a).toNat → EP X pins σ Q (.ref s1.heap.objs.size) { s1 with heap := h', toks := tk } := fun h' tk acc c' hk e' hi => by
    refine ⟨.ref s1.heap.objs.size, upd H1 s1.heap.objs.size (.lst (rgV a b)), I1.laid hk (Nat.le_refl _) (show ObjOk X.prog X.w _ _ _ (.lst (rgV a b)) from ⟨?_, acc.toList, c', vals_rg hi, ?_⟩), rfl, q _ (I1.hok.fresh (Nat.le_refl _))⟩
    · rw [rgV_length, sizeLine_eq]; omega
    · rw [Array.toArray_toList]; exact e'
  cases hs : Builtin.Range.small a b 1 with
  | true => exact call_list_range (n := (b - a).toNat) (I1.ok.hd hc) hr hs (rangeSize_nat a b) b5 fin
  | false => exact PySem.Rgb.call_big (n := (b - a).toNat) (I1.ok.hd hc) hr hs (rangeSize_nat a b) b5 fin
end
end L2
namespace Al
open PySem PySem.Spec PyProof.Rows L2 Gx Dt
variable [Al.TabList]
section
variable {B : Base} {K : PySem.W.Frag} {σ : AEnv} {M : List MO} {te tf : TE} {Φ : AV → List MO → Prop}
theorem ae_listRgB (h : AE B K te σ M fun x M1 => ∃ a : Int, x = .d (.int a) ∧ AE B K tf σ M1 fun y M2 => ∃ b : Int, y = .d (.int b) ∧ (b - a).toNat ≤ 2 ^ 24 ∧ Φ (.d (.lst (rngD a (b - a).toNat))) M2) : AE B K (tLstRgB (tRg2 te tf)) σ M Φ := fun W μ H τ o s e Q q =>
  h W μ H τ o s e _ fun x M1 W1 μ1 H1 v ⟨a, e1, p⟩ f1 r1 => by
    subst e1; cases r1
    refine p W1 μ1 H1 τ f1.ok f1.sim (f1.re e) _ fun y M2 W2 μ2 H2 u ⟨b, e2, hb, p2⟩ f2 r2 => ?_
    subst e2; cases r2
    refine ⟨a, b, rfl, rfl, hb, fun q' hq' => ?_⟩
    have rr : RDs K W2 (rngD a (b - a).toNat) (rgV a b) := by
      unfold rngD rgV
      have : ∀ m : List Nat, RDs K W2 (m.map fun (i : Nat) => D.int (a + (i : Int))) (m.map fun i => V.int (a + (i : Nat))) := fun m => by
        induction m with
        | nil => rfl
        | cons a m ih => exact ⟨_, _, rfl, rfl, ih⟩
      exact this _
    have g := go_new (u := .lst (rgV a b)) f2.ok f2.sim hq'
    exact q _ _ _ _ _ _ p2 ((f1.trans f2).trans g) ⟨q', _, rfl, upd_same, rr.mono g.wext⟩
end
end Al
namespace Al
open PySem PyProof.Rows L2 Gx RZ
variable [Al.TabList]
section
variable {B : Base} {K : PySem.W.Frag} {σ : AEnv} {M : List MO} {ta : TA}
theorem ai_zipL {Φ : List D → List MO → Prop} (h : AA B K ta σ M fun xs M1 => ∃ l m, xs = [.d (.lst l), .d (.lst m)] ∧ Φ (zipD l m) M1) : AI B K (iZip K ta) σ M Φ := fun W μ H τ o s e R q =>
  h W μ H τ o s e _ fun x M1 W1 μ1 H1 v ⟨l, m, e1, p⟩ f1 r1 => by
    subst e1
    obtain ⟨v, w, rfl, r2, r3⟩ := ra_two r1
    obtain ⟨a, vs, rfl, h1, h2⟩ := r2
    obtain ⟨b, ws, rfl, h3, h4⟩ := r3
    refine ⟨a, b, vs, ws, rfl, SqL.of (f1.sim.sub _ _ h1), SqL.of (f1.sim.sub _ _ h3), q _ _ _ _ _ _ p f1 fun W2 H2 M2 e2 s1 sm _ => ?_⟩
    have s2 := sm.sub
    have ha : SqL K H2 a vs := SqL.of (s2 _ _ (s1 _ _ h1))
    have hb : SqL K H2 b ws := SqL.of (s2 _ _ (s1 _ _ h3))
    refine ⟨fun i d hd => ?_, ⟨vs, ws, ha, hb, ?_⟩⟩
    · obtain ⟨y, z, hy, hz, rfl⟩ := zipD_get hd
      obtain ⟨v, hv, rv⟩ := h2.get hy
      obtain ⟨u, hu, ru⟩ := h4.get hz
      refine ⟨⟨vs, ws, v, u, ha, hb, hv, hu⟩, fun x H' ⟨T, v', u', e1, e2, e3, e4, e5⟩ => .inr (.inl ⟨T, _, e2, e3, ?_⟩)⟩
      have z1 := e4 vs ha
      rw [hv] at z1; cases z1
      have z2 := e5 ws hb
      rw [hu] at z2; cases z2
      have wT : W2 T = none := by
        cases e : W2 T with
        | none => rfl
        | some u => rw [s2 T u e] at e2; cases e2
      subst e1
      exact ⟨T, _, rfl, .inl (.inl upd_same), _, _, rfl, RD.mono (s1.trans (same_upd wT)) rv, _, _, rfl, RD.mono (s1.trans (same_upd wT)) ru, rfl⟩
    · rw [zipD_len, h2.length, h4.length]
      by_cases z : vs.length ≤ ws.length
      · exact .inl (by omega)
      · exact .inr (by omega)
end
end Al
namespace Wd
open PySem PySem.Spec PyProof.Rows L2 Al Gx Nd Dt Lm Cb NdefX
variable [Al.TabList]
theorem sc__law_whole : FnScope ["_law_thing"] ["_law_thing"] (defScope (top 32)) := ⟨rfl, rfl, rfl, by decide +kernel, rfl, by decide +kernel, by decide +kernel⟩
theorem sc__law_is_way : FnScope ["_law_rooms_here", "_law_put", "_law_told", "_law_high", "_law_aim", "_law_ahead", "_law_one"] ["_law_rooms_here", "_law_put", "_law_told", "_law_high", "_law_aim"] (defScope (top 33)) := ⟨rfl, rfl, rfl, by decide +kernel, rfl, by decide +kernel, by decide +kernel⟩
def aWholeI : ASp := fun xs M Φ _ => ∃ i : Int, xs = [.d (.int i)] ∧ M = [] ∧ Φ (.d (.bl true)) []
theorem mono_wholeI : Mono aWholeI := fun xs M Φ Φ' Ψ Ψ' h1 _ ⟨i, e1, e2, p⟩ => ⟨i, e1, e2, h1 _ _ p⟩
def aIsWayL : ASp := fun xs M Φ _ => ∃ (rms : List Rm) (pm : Pm) (ws : List Cell) (c goal : Cell), xs = [.d (.lst (rms.map Rm.t)), .d (dD (pkD pm)), .d (.lst (ws.map pk)), .d (pk c), .d (pk goal)] ∧ M = [] ∧ (∀ a, 0 ≤ a → a < rms.length → True) ∧
  IsWayD (ears (rms.map Rm.rd)) (knB pm) c goal ws ∧ ws.length ≤ 100001 ∧ (∀ y ∈ ws, 0 ≤ y.1 ∧ y.1 < rms.length) ∧ Φ (.d (.bl true)) []
theorem mono_isWayL : Mono aIsWayL := fun xs M Φ Φ' Ψ Ψ' h1 _ ⟨rms, pm, ws, c, goal, e1, e2, e3, e4, e5, e6, p⟩ => ⟨rms, pm, ws, c, goal, e1, e2, e3, e4, e5, e6, h1 _ _ p⟩
theorem IsWayD.beat {ear : Int → List Int} {kn : Cell → Bool} {c goal : Cell} {ws : List Cell} (N : IsWayD ear kn c goal ws) : ∀ (i : Nat) (b : Cell), ws[i]? = some b → b.2 = c.2 - i
  | 0, b, hb => by rw [N.first] at hb; cases hb; simp
  | i + 1, b, hb => by
    have hlt := (List.getElem?_eq_some_iff.mp hb).1
    have hd : ws[i]? = some ws[i] := List.getElem?_eq_getElem (by omega)
    have h1 := N.beat i _ hd
    have h2 := (N.step i _ _ hd hb).2.1
    rw [h2, h1]
    omega
local macro_rules | `(tactic| walk_at "alside") => `(tactic| first
  | decide
  | (dsimp only; decide)
  | exact Or.inr (by decide)
  | exact Or.inl (by decide)
  | (dsimp only; omega)
  | (unfold CDiv; omega)
  | (unfold CPow; omega)
  | (unfold CMul; omega)
  | assumption)
local macro_rules | `(tactic| walk_at "al1") => `(tactic| first
  | with_reducible refine as_asg ?_
  | with_reducible refine as_drop ?_
  | with_reducible refine as_ret ?_
  | with_reducible refine as_if ?_
  | with_reducible refine as_next ?_
  | with_reducible refine at_test ?_
  | with_reducible refine at_b ?_
  | with_reducible refine at_and ?_
  | with_reducible refine at_or ?_
  | with_reducible refine at_not ?_
  | with_reducible refine ae_op ?_
  | with_reducible refine ae_un ?_
  | with_reducible refine ae_cb ?_
  | with_reducible refine ae_if ?_
  | with_reducible refine ae_andV ?_
  | with_reducible refine ae_orV ?_
  | with_reducible refine ae_notV ?_
  | with_reducible refine ae_chain ?_
  | with_reducible refine ae_int ?_
  | with_reducible refine ae_bl ?_
  | with_reducible refine ae_non ?_
  | with_reducible refine ae_str ?_
  | with_reducible refine ae_ty ?_
  | with_reducible refine ae_adr ?_
  | with_reducible refine aa_nil ?_
  | with_reducible refine aa_cons ?_
  | with_reducible refine ag_name ?_
  | with_reducible refine ag_sub ?_
  | with_reducible refine at_yes ?_
  | ((with_reducible show AE _ _ (tVar _) _ _ _); refine ae_var rfl ?_)
  | ((with_reducible show AR _ _ (uAdd _) _ _ _ _); refine ur_addI ?_)
  | ((with_reducible show AR _ _ (uMul _) _ _ _ _); refine ur_mulI (by walk_at "alside") ?_)
  | ((with_reducible show AR _ _ (uEq _) _ _ _ _); first | refine ur_eqI ?_ | refine ur_eqS ?_ | refine ur_eqB ?_)
  | ((with_reducible show AR _ _ (uNe _) _ _ _ _); first | refine ur_neI ?_ | refine ur_neS ?_ | refine ur_neB ?_)
  | ((with_reducible show AR _ _ (rIx _) _ _ _ _); first | refine ur_ixM rfl rfl ?_ | refine ur_ixL rfl ?_ | refine ur_ixT rfl ?_ | refine ur_ixS rfl ?_)
  | ((with_reducible show AC _ _ (uLen _) _ _ _); first | refine uc_len (.tup _) ?_ | refine uc_len (.lst _) ?_ | refine uc_len (.scr _) ?_ | refine uc_len (.mm rfl) ?_)
  | ((with_reducible show AR _ _ (rI0 _) _ _ _ _); first | with_reducible refine ar_i0 ?_ | with_reducible refine ar_b0 ?_)
  | ((with_reducible show AU _ _ (rU _) _ _ _); with_reducible refine au_i ?_)
  | ((with_reducible show AR _ _ (rI _ _) _ _ _ _); refine ar_i (by walk_at "alside") ?_)
  | ((with_reducible show AR _ _ (rIxL _) _ _ _ _); first | refine ar_ixM rfl rfl ?_ | refine ar_ixL rfl ?_ | refine ar_ixS rfl ?_)
  | ((with_reducible show AR _ _ (rIxT _) _ _ _ _); refine ar_ixT rfl ?_)
  | ((with_reducible show AR _ _ rEq _ _ _ _); first | with_reducible refine ar_eqI ?_ | with_reducible refine ar_eqS ?_ | with_reducible refine ar_eqB ?_)
  | ((with_reducible show AR _ _ rNe _ _ _ _); first | with_reducible refine ar_neI ?_ | with_reducible refine ar_neS ?_ | with_reducible refine ar_neB ?_))
local macro_rules | `(tactic| walk_at "alds") => `(tactic| first
  | refine ⟨[], rfl, Nat.le_of_ble_eq_true rfl, ?_⟩
  | refine ⟨[_], rfl, Nat.le_of_ble_eq_true rfl, ?_⟩
  | refine ⟨[_, _], rfl, Nat.le_of_ble_eq_true rfl, ?_⟩
  | refine ⟨[_, _, _], rfl, Nat.le_of_ble_eq_true rfl, ?_⟩
  | refine ⟨[_, _, _, _], rfl, Nat.le_of_ble_eq_true rfl, ?_⟩
  | refine ⟨[_, _, _, _, _], rfl, Nat.le_of_ble_eq_true rfl, ?_⟩
  | refine ⟨[_, _, _, _, _, _], rfl, Nat.le_of_ble_eq_true rfl, ?_⟩
  | refine ⟨[_, _, _, _, _, _, _], rfl, Nat.le_of_ble_eq_true rfl, ?_⟩
  | refine ⟨[_, _, _, _, _, _, _, _], rfl, Nat.le_of_ble_eq_true rfl, ?_⟩
  | refine ⟨[_, _, _, _, _, _, _, _, _], rfl, Nat.le_of_ble_eq_true rfl, ?_⟩
  | refine ⟨[_, _, _, _, _, _, _, _, _, _], rfl, Nat.le_of_ble_eq_true rfl, ?_⟩
  | refine ⟨[_, _, _, _, _, _, _, _, _, _, _], rfl, Nat.le_of_ble_eq_true rfl, ?_⟩
  | refine ⟨[_, _, _, _, _, _, _, _, _, _, _, _], rfl, Nat.le_of_ble_eq_true rfl, ?_⟩)
local macro_rules | `(tactic| walk_at "alc") => `(tactic| refine ae_call0 (Ψ := fun _ _ => False) (by walk_at "almono") efits_none ?_)
local macro_rules | `(tactic| walk_at "al") => `(tactic| repeat (first | walk_at "al1" | with_reducible refine as_seq ?_ | with_reducible refine ae_tup ?_ | with_reducible walk_at "alc" | refine ⟨_, rfl, ?_⟩ | walk_at "alds" | refine ⟨_, _, _, _, _, rfl, rfl, rfl, rfl, rfl, ?_⟩))
local macro_rules | `(tactic| walk_at "alF") => `(tactic| repeat (first | walk_at "al1" | with_reducible refine as_seq ?_ | with_reducible refine ae_tup ?_ | with_reducible refine ae_lst ?_ | with_reducible walk_at "alc" | refine ⟨_, rfl, ?_⟩ | walk_at "alds" | refine ⟨_, _, _, _, _, rfl, rfl, rfl, rfl, rfl, ?_⟩))
local macro_rules | `(tactic| walk_at "alo") => `(tactic| repeat (first | walk_at "al1" | with_reducible refine ae_tup ?_ | with_reducible walk_at "alc" | refine ⟨_, rfl, ?_⟩ | walk_at "alds" | refine ⟨_, _, _, _, _, rfl, rfl, rfl, rfl, rfl, ?_⟩))
section
variable {P : Program} {w : World} {K : PySem.W.Frag} {mg : Str → Option Value} {base : Heap} {C_Room C_Web : Addr}
theorem ok_wholeI (DD : DefAt K mg "_law_whole" (top 32) ["_law_thing"]) (T : Bt mg) : FnAt P w K mg base CX0 1 "_law_whole" ["_law_thing"] aWholeI := by
  refine fnat DD sc__law_whole (fun xs M Φ Ψ h => ?_) (fun f cdv A outer s H E hr => ⟨_, (pss_one (ps_ret (pe_and (pe_callB (k_isi K) (by rfl) T.isinstance (by decide +kernel) (pa_cons (pv 0) (pa_cons (pe_bltn (v := .ty "int") (by rfl) T.int (by decide +kernel) rfl) pa_nil))) (pe_one (pe_not (pe_callB (k_isi K) (by rfl) T.isinstance (by decide +kernel) (pa_cons (pv 0) (pa_cons (pe_bltn (v := .ty "bool") (by rfl) T.bool (by decide +kernel) rfl) pa_nil)))))))), fun B xs M Φ Ψ hB h => ?_⟩)
  · obtain ⟨i, rfl, _⟩ := h
    rfl
  · obtain ⟨i, rfl, rfl, p⟩ := h
    refine as_ret <| ae_andV <| ae_cb <| aa_cons <| ae_var rfl <| aa_cons <| ae_ty <| aa_nil <| uc_isiB True.intro (b := true) (kit_ty (by decide +kernel)) ⟨_, rfl, fun _ => ?_, fun z => nomatch z⟩
    exact ae_notV <| ae_cb <| aa_cons <| ae_var rfl <| aa_cons <| ae_ty <| aa_nil <| uc_isiB True.intro (b := false) (kit_ty (by decide +kernel)) ⟨_, rfl, rt_d p⟩
theorem ok_isWayL (DD : DefAt K mg "_law_is_way" (top 33) ["_law_rooms_here", "_law_put", "_law_told", "_law_high", "_law_aim"]) (T : Bt mg) (G__law_whole : FnAt P w K mg base CX0 1 "_law_whole" ["_law_thing"] aWholeI) :
    FnAt P w K mg base CX0 3 "_law_is_way" ["_law_rooms_here", "_law_put", "_law_told", "_law_high", "_law_aim"] aIsWayL := by
  refine fnat DD sc__law_is_way (fun xs M Φ Ψ h => ?_) (fun f cdv A outer s H E hr => ⟨_, (pss_cons (ps_if (PW.pt (pw_or (pt_not (pt_val (pe_callB (k_isi K) (by rfl) T.isinstance (by decide +kernel) (pa_cons (pv 2) (pa_cons (pe_bltn (v := .ty "list") (by rfl) T.list (by decide +kernel) rfl) pa_nil))))) (pw_or (pt_cmpR (k_ne K hr.units) (pe_callB (k_len K) (by rfl) T.len (by decide +kernel) (pa_cons (pv 2) pa_nil)) (pe_op (k_add K) (pe_op op_sub (pe_ix (k_ix K) (pv 3) pe_int (fun _ _ => rfl)) (pe_ix (k_ix K) (pv 4) pe_int (fun _ _ => rfl))) pe_int) (nomark _)) (pw_or (pt_cmpR (k_ne K hr.units) (pe_ix (k_ix K) (pv 2) pe_int (fun _ _ => rfl)) (pv 3) (nomark _)) (pw_or1 (pt_cmpR (k_ne K hr.units) (pe_ix (k_ix K) (pv 2) (pe_un un_neg pe_int) (fun _ _ => rfl)) (pv 4) (nomark _))))))) (pss_one (ps_ret pe_bl)) pss_nil) (pss_cons (ps_for PassesOwn.never rfl (pi_zip rfl T.zip (pa_cons (pv 2) (pa_cons (pe_slice (k_sl K) (pv 2) (po_some pe_int) po_none) pa_nil))) (pg_tupK (n := 2) K rfl (pgs_cons (pg_name (i := 5) sc__law_is_way.nd rfl (Or.inl rfl)) (pgs_cons (pg_name (i := 6) sc__law_is_way.nd rfl (Or.inl rfl)) pgs_nil))) (pss_one (ps_if (PW.pt (pw_or (pt_cmpR (k_inD hr.units) (pv 5) (pv 1) (by rfl)) (pw_or (pt_cmpR (k_eq K hr.units) (pe_ix (k_ix K) (pv 5) pe_int (fun _ _ => rfl)) pe_int (nomark _)) (pw_or (pt_cmpR (k_ne K hr.units) (pe_ix (k_ix K) (pv 6) pe_int (fun _ _ => rfl)) (pe_op op_sub (pe_ix (k_ix K) (pv 5) pe_int (fun _ _ => rfl)) pe_int) (nomark _)) (pw_or1 (pt_cmpR (k_notIn K) (pe_ix (k_ix K) (pv 6) pe_int (fun _ _ => rfl)) (pe_ix (k_ix K) (pe_ix (k_ix K) (pv 0) (pe_ix (k_ix K) (pv 5) pe_int (fun _ _ => rfl)) (fun _ _ => rfl)) pe_int (fun _ _ => rfl)) (by rfl))))))) (pss_one (ps_ret pe_bl)) pss_nil))) (pss_one (ps_ret (pe_callB (k_all K rfl) (by rfl) T.all (by decide +kernel) (pa_cons (pe_lc (own := [("_law_one", 6)]) rfl sc__law_is_way.nd (pi_seqK K (pv 2)) (blkOk_by (own := [("_law_one", 6)]) (N := ["_law_rooms_here", "_law_put", "_law_told", "_law_high", "_law_aim", "_law_ahead", "_law_one"]) (sc := defScope (top 33)) (by decide +kernel)) (fun _ _ _ _ _ => by exact (pg_name (i := 6) sc__law_is_way.nd rfl (Or.inl rfl))) (fun _ _ _ _ _ => by exact pts_nil) (fun _ _ _ _ _ => by exact (pe_and (pe_callB (k_isi K) (by rfl) T.isinstance (by decide +kernel) (pa_cons (pv 6) (pa_cons (pe_bltn (v := .ty "tuple") (by rfl) T.tuple (by decide +kernel) rfl) pa_nil))) (pe_and (pe_fn G__law_whole (hr.mono (by decide)) rfl pass0 (pa_cons (pe_ix (k_ix K) (pv 6) pe_int (fun _ _ => rfl)) pa_nil)) (pe_one (pe_fn G__law_whole (hr.mono (by decide)) rfl pass0 (pa_cons (pe_ix (k_ix K) (pv 6) pe_int (fun _ _ => rfl)) pa_nil))))))) pa_nil)))))), fun B xs M Φ Ψ hB h => ?_⟩)
  · obtain ⟨rms, pm, ws, c, goal, rfl, _⟩ := h
    rfl
  · obtain ⟨rms, pm, ws, c, goal, rfl, rfl, _, N, hl, hin, p⟩ := h
    have n0 := (List.getElem?_eq_some_iff.mp N.first).1
    have hlast : atI (ws.map pk) (-1) = some (pk goal) := by
      unfold atI ixN
      rw [List.length_map, if_neg (by omega), if_pos (by omega), Option.bind_some, show ((-1 : Int) + (ws.length : Nat)).toNat = ws.length - 1 from by omega, List.getElem?_map, N.last]
      rfl
    have hhead : atI (ws.map pk) 0 = some (pk c) := atI_natD (i := 0) (by rw [List.getElem?_map, N.first]; rfl)
    have hbt := N.beat _ _ N.last
    refine as_seq <| as_if <| at_or <| at_not <| at_test <| ae_cb <| aa_cons <| ae_var rfl <| aa_cons <| ae_ty <| aa_nil <| uc_isiB True.intro (b := true) (kit_ty (by decide +kernel)) ⟨_, rfl, (fun z => nomatch z), fun _ => ?_⟩
    refine at_or <| at_test <| ae_op <| ae_cb <| aa_cons <| ae_var rfl <| aa_nil <| uc_len (.lst _) <| ae_op <| ae_op <| ae_op <| ae_var rfl <| ae_int <| ur_ixK (k := .inl c.2) rfl <| ae_op <| ae_var rfl <| ae_int <| ur_ixK (k := .inl goal.2) rfl <| ar_i0 <| ae_int <| ur_addI <| ur_neI ⟨_, rfl, fun z => ?_, fun _ => ?_⟩
    · rw [List.length_map, decide_eq_true (show ((ws.length : Nat) : Int) = c.2 - goal.2 + 1 by omega)] at z
      cases z
    refine at_or <| at_test <| ae_op <| ae_op <| ae_var rfl <| ae_int <| ur_ixL hhead <| ae_var rfl <| ur_neC ⟨_, rfl, fun z => absurd z (by simp), fun _ => ?_⟩
    refine at_test <| ae_op <| ae_op <| ae_var rfl <| ae_un <| ae_int <| au_i <| ur_ixL hlast <| ae_var rfl <| ur_neC ⟨_, rfl, fun z => absurd z (by simp), fun _ => as_next ?_⟩
    refine as_seq <| as_for (n := 0) (fun i σ' M' => M' = [] ∧ ∃ a5 a6 : Option AV, σ' = [some (.d (.lst (rms.map Rm.t))), some (.d (dD (pkD pm))), some (.d (.lst (ws.map pk))), some (.d (pk c)), some (.d (pk goal)), a5, a6]) (fun i σ' M' ⟨e, _⟩ => by rw [e]; rfl)
      (ai_zipL <| aa_cons <| ae_var rfl <| aa_cons <| ae_sliceL <| ae_var rfl ⟨ws.map pk, rfl, ao_some <| ae_int ⟨_, rfl, ao_none <| aa_nil ⟨ws.map pk, _, rfl, ⟨rfl, none, none, rfl⟩, fun i d σ' M' hd hi => ?_, fun σ' M' hi => ?_⟩⟩⟩)
    · obtain ⟨rfl, a5, a6, rfl⟩ := hi
      obtain ⟨y, z, hy, hz, rfl⟩ := zipD_get hd
      rw [show ((1 : Int)) = ((1 : Nat) : Int) from rfl, cutL_hi, List.getElem?_drop, List.getElem?_map] at hz
      rw [List.getElem?_map] at hy
      obtain ⟨a, ha, rfl⟩ := Option.map_eq_some_iff.mp hy
      obtain ⟨b, hb, rfl⟩ := Option.map_eq_some_iff.mp hz
      rw [Nat.add_comm] at hb
      obtain ⟨n1, n2, n3⟩ := N.step i a b ha hb
      obtain ⟨i0, i1⟩ := hin a (List.mem_of_getElem? ha)
      obtain ⟨x, hx, _, hat⟩ := rm_at i0 i1
      rw [ears_rmsG hx] at n1
      obtain ⟨m1, m2⟩ : a.2 ≠ 0 ∧ pokedB pm a = false := by
        unfold knB at n3
        simpa using n3
      refine ag_tup rfl (ags_cons (ag_name (ags_cons (ag_name (ags_nil ?_)))))
      refine as_if <| at_or <| at_test <| ae_op <| ae_var rfl <| ae_var rfl <| ar_inF (neg := false) (ky := key2 a) ⟨_, rfl, fun z => ?_, fun _ => ?_⟩
      · rw [val_pkD, m2] at z
        cases z
      refine at_or <| at_test <| ae_op <| ae_op <| ae_var rfl <| ae_int <| ur_ixK (k := .inl a.2) rfl <| ae_int <| ur_eqI ⟨_, rfl, fun z => absurd z (by simp [m1]), fun _ => ?_⟩
      refine at_or <| at_test <| ae_op <| ae_op <| ae_var rfl <| ae_int <| ur_ixK (k := .inl b.2) rfl <| ae_op <| ae_op <| ae_var rfl <| ae_int <| ur_ixK (k := .inl a.2) rfl <| ae_int <| ar_i0 <| ur_neI ⟨_, rfl, fun z => absurd z (by simp [n2]), fun _ => ?_⟩
      refine at_test <| ae_op <| ae_op <| ae_var rfl <| ae_int <| ur_ixK (k := .inl b.1) rfl <| ae_op <| ae_op <| ae_var rfl <| ae_op <| ae_var rfl <| ae_int <| ur_ixK (k := .inl a.1) rfl <| ur_ixL hat <| ae_int <| ur_ixT (d := .tup (x.ears.map D.int)) rfl <| ur_inI (neg := true) (.tup _) ⟨_, rfl, fun z => absurd z (by simp [n1]), fun _ => as_next ?_⟩
      exact ⟨(by simp), rfl, _, _, rfl⟩
    · obtain ⟨rfl, a5, a6, rfl⟩ := hi
      refine as_ret <| ae_cb <| aa_cons <| ae_map (l := ws.map pk) (fun d => .bl true) rfl (gk_name rfl) (by rw [List.length_map, sizeLine_eq]; omega) (ai_seqL <| ae_var rfl ⟨_, rfl, rfl, rfl, ?_⟩) fun d hd acc => ?_
      rotate_left
      · obtain ⟨one, _, rfl⟩ := List.mem_map.mp hd
        refine ag_name <| ae_andV <| ae_cb <| aa_cons <| ae_var rfl <| aa_cons <| ae_ty <| aa_nil <| uc_isiB True.intro (b := true) (kit_ty (by decide +kernel)) ⟨_, rfl, fun _ => ?_, fun z => nomatch z⟩
        refine ae_andV <| ae_call0 (Ψ := fun _ _ => False) mono_wholeI efits_none <| aa_cons <| ae_op <| ae_var rfl <| ae_int <| ur_ixK (k := .inl one.1) rfl <| aa_nil <| sent0 (ys := [.int one.1]) mono_wholeI ⟨one.1, rfl, rfl, rfl, _, rfl, ⟨_, rfl, fun _ => ?_, fun z => nomatch z⟩⟩
        exact ae_call0 (Ψ := fun _ _ => False) mono_wholeI efits_none <| aa_cons <| ae_op <| ae_var rfl <| ae_int <| ur_ixK (k := .inl one.2) rfl <| aa_nil <| sent0 (ys := [.int one.2]) mono_wholeI ⟨one.2, rfl, rfl, rfl, _, rfl, ⟨rfl, rfl⟩⟩
      refine aa_nil <| uc_all (bs := ws.map fun _ => true) (by rw [List.map_map, List.map_map]; exact .lst _) ?_
      rw [show (ws.map fun _ => true).all id = true from List.all_eq_true.mpr fun b hb => by obtain ⟨_, _, rfl⟩ := List.mem_map.mp hb; rfl]
      exact rt_d p
end
end Wd
namespace Wd
open PySem PySem.Spec PyProof.Rows L2 Al Gx Nd Dt Lm Cb NdefX
variable [Al.TabList]
theorem sc__law_pokes : FnScope ["_law_bag_here", "_law_rooms_here", "_law_times", "_law_most", "_law_put", "_law_turn", "_law_spot"] ["_law_bag_here", "_law_rooms_here", "_law_times", "_law_most"] (defScope (top 30)) := ⟨rfl, rfl, rfl, by decide +kernel, rfl, by decide +kernel, by decide +kernel⟩
local macro_rules | `(tactic| walk_at "alside") => `(tactic| first
  | decide
  | (dsimp only; decide)
  | exact Or.inr (by decide)
  | exact Or.inl (by decide)
  | (dsimp only; omega)
  | (unfold CDiv; omega)
  | (unfold CPow; omega)
  | (unfold CMul; omega)
  | assumption)
local macro_rules | `(tactic| walk_at "al1") => `(tactic| first
  | with_reducible refine as_asg ?_
  | with_reducible refine as_drop ?_
  | with_reducible refine as_ret ?_
  | with_reducible refine as_if ?_
  | with_reducible refine as_next ?_
  | with_reducible refine at_test ?_
  | with_reducible refine at_b ?_
  | with_reducible refine at_and ?_
  | with_reducible refine at_or ?_
  | with_reducible refine at_not ?_
  | with_reducible refine ae_op ?_
  | with_reducible refine ae_un ?_
  | with_reducible refine ae_cb ?_
  | with_reducible refine ae_if ?_
  | with_reducible refine ae_andV ?_
  | with_reducible refine ae_orV ?_
  | with_reducible refine ae_notV ?_
  | with_reducible refine ae_chain ?_
  | with_reducible refine ae_int ?_
  | with_reducible refine ae_bl ?_
  | with_reducible refine ae_non ?_
  | with_reducible refine ae_str ?_
  | with_reducible refine ae_ty ?_
  | with_reducible refine ae_adr ?_
  | with_reducible refine aa_nil ?_
  | with_reducible refine aa_cons ?_
  | with_reducible refine ag_name ?_
  | with_reducible refine ag_sub ?_
  | with_reducible refine at_yes ?_
  | ((with_reducible show AE _ _ (tVar _) _ _ _); refine ae_var rfl ?_)
  | ((with_reducible show AR _ _ (uAdd _) _ _ _ _); refine ur_addI ?_)
  | ((with_reducible show AR _ _ (uMul _) _ _ _ _); refine ur_mulI (by walk_at "alside") ?_)
  | ((with_reducible show AR _ _ (uEq _) _ _ _ _); first | refine ur_eqI ?_ | refine ur_eqS ?_ | refine ur_eqB ?_)
  | ((with_reducible show AR _ _ (uNe _) _ _ _ _); first | refine ur_neI ?_ | refine ur_neS ?_ | refine ur_neB ?_)
  | ((with_reducible show AR _ _ (rIx _) _ _ _ _); first | refine ur_ixM rfl rfl ?_ | refine ur_ixL rfl ?_ | refine ur_ixT rfl ?_ | refine ur_ixS rfl ?_)
  | ((with_reducible show AC _ _ (uLen _) _ _ _); first | refine uc_len (.tup _) ?_ | refine uc_len (.lst _) ?_ | refine uc_len (.scr _) ?_ | refine uc_len (.mm rfl) ?_)
  | ((with_reducible show AR _ _ (rI0 _) _ _ _ _); first | with_reducible refine ar_i0 ?_ | with_reducible refine ar_b0 ?_)
  | ((with_reducible show AU _ _ (rU _) _ _ _); with_reducible refine au_i ?_)
  | ((with_reducible show AR _ _ (rI _ _) _ _ _ _); refine ar_i (by walk_at "alside") ?_)
  | ((with_reducible show AR _ _ (rIxL _) _ _ _ _); first | refine ar_ixM rfl rfl ?_ | refine ar_ixL rfl ?_ | refine ar_ixS rfl ?_)
  | ((with_reducible show AR _ _ (rIxT _) _ _ _ _); refine ar_ixT rfl ?_)
  | ((with_reducible show AR _ _ rEq _ _ _ _); first | with_reducible refine ar_eqI ?_ | with_reducible refine ar_eqS ?_ | with_reducible refine ar_eqB ?_)
  | ((with_reducible show AR _ _ rNe _ _ _ _); first | with_reducible refine ar_neI ?_ | with_reducible refine ar_neS ?_ | with_reducible refine ar_neB ?_))
local macro_rules | `(tactic| walk_at "alds") => `(tactic| first
  | refine ⟨[], rfl, Nat.le_of_ble_eq_true rfl, ?_⟩
  | refine ⟨[_], rfl, Nat.le_of_ble_eq_true rfl, ?_⟩
  | refine ⟨[_, _], rfl, Nat.le_of_ble_eq_true rfl, ?_⟩
  | refine ⟨[_, _, _], rfl, Nat.le_of_ble_eq_true rfl, ?_⟩
  | refine ⟨[_, _, _, _], rfl, Nat.le_of_ble_eq_true rfl, ?_⟩
  | refine ⟨[_, _, _, _, _], rfl, Nat.le_of_ble_eq_true rfl, ?_⟩
  | refine ⟨[_, _, _, _, _, _], rfl, Nat.le_of_ble_eq_true rfl, ?_⟩
  | refine ⟨[_, _, _, _, _, _, _], rfl, Nat.le_of_ble_eq_true rfl, ?_⟩
  | refine ⟨[_, _, _, _, _, _, _, _], rfl, Nat.le_of_ble_eq_true rfl, ?_⟩
  | refine ⟨[_, _, _, _, _, _, _, _, _], rfl, Nat.le_of_ble_eq_true rfl, ?_⟩
  | refine ⟨[_, _, _, _, _, _, _, _, _, _], rfl, Nat.le_of_ble_eq_true rfl, ?_⟩
  | refine ⟨[_, _, _, _, _, _, _, _, _, _, _], rfl, Nat.le_of_ble_eq_true rfl, ?_⟩
  | refine ⟨[_, _, _, _, _, _, _, _, _, _, _, _], rfl, Nat.le_of_ble_eq_true rfl, ?_⟩)
local macro_rules | `(tactic| walk_at "alc") => `(tactic| refine ae_call0 (Ψ := fun _ _ => False) (by walk_at "almono") efits_none ?_)
local macro_rules | `(tactic| walk_at "al") => `(tactic| repeat (first | walk_at "al1" | with_reducible refine as_seq ?_ | with_reducible refine ae_tup ?_ | with_reducible walk_at "alc" | refine ⟨_, rfl, ?_⟩ | walk_at "alds" | refine ⟨_, _, _, _, _, rfl, rfl, rfl, rfl, rfl, ?_⟩))
local macro_rules | `(tactic| walk_at "alF") => `(tactic| repeat (first | walk_at "al1" | with_reducible refine as_seq ?_ | with_reducible refine ae_tup ?_ | with_reducible refine ae_lst ?_ | with_reducible walk_at "alc" | refine ⟨_, rfl, ?_⟩ | walk_at "alds" | refine ⟨_, _, _, _, _, rfl, rfl, rfl, rfl, rfl, ?_⟩))
local macro_rules | `(tactic| walk_at "alo") => `(tactic| repeat (first | walk_at "al1" | with_reducible refine ae_tup ?_ | with_reducible walk_at "alc" | refine ⟨_, rfl, ?_⟩ | walk_at "alds" | refine ⟨_, _, _, _, _, rfl, rfl, rfl, rfl, rfl, ?_⟩))
local macro_rules | `(tactic| walk_at "almono") => `(tactic| first | exact mono_take | exact mono_unlike)
section
variable {P : Program} {w : World} {K : PySem.W.Frag} {mg : Str → Option Value} {base : Heap}
theorem ok_pokes (DD : DefAt K mg "_law_pokes" (top 30) ["_law_bag_here", "_law_rooms_here", "_law_times", "_law_most"]) (T : Bt mg) (G__law_take : FnAt P w K mg base CX0 1 "_law_take" ["_law_bag_here", "_law_many"] aTake) :
    FnAt P w K mg base CX0 3 "_law_pokes" ["_law_bag_here", "_law_rooms_here", "_law_times", "_law_most"] aPokes := by
  refine fnat DD sc__law_pokes (fun xs M Φ Ψ h => ?_) (fun f cdv A outer s H E hr => ⟨_, (pss_cons (ps_set (i := 4) sc__law_pokes.nd rfl (Or.inl rfl) pe_dnewT) (pss_cons (ps_for PassesOwn.never rfl (pi_range1 rfl T.range (pa_cons (pe_fn G__law_take (hr.mono (by decide)) rfl pass0 (pa_cons (pv 0) (pa_cons (pe_op (k_add K) (pv 3) pe_int) pa_nil))) pa_nil)) (pg_name (i := 5) sc__law_pokes.nd rfl (Or.inl rfl)) (pss_cons (ps_set (i := 6) sc__law_pokes.nd rfl (Or.inl rfl) (pe_fn G__law_take (hr.mono (by decide)) rfl pass0 (pa_cons (pv 0) (pa_cons (pe_callB (k_len K) (by rfl) T.len (by decide +kernel) (pa_cons (pv 1) pa_nil)) pa_nil)))) (pss_one (ps_asg (pe_fn G__law_take (hr.mono (by decide)) rfl pass0 (pa_cons (pv 0) (pa_cons (pe_ix (k_ix K) (pe_ix (k_ix K) (pv 1) (pv 6) (fun _ _ => rfl)) pe_int (fun _ _ => rfl)) pa_nil))) (pg_sub (pv 4) (pe_tup (pa_cons (pv 6) (pa_cons (pe_ix (k_ix K) (pv 2) (pe_fn G__law_take (hr.mono (by decide)) rfl pass0 (pa_cons (pv 0) (pa_cons (pe_callB (k_len K) (by rfl) T.len (by decide +kernel) (pa_cons (pv 2) pa_nil)) pa_nil))) (fun _ _ => rfl)) pa_nil))) (k_setD hr.units)))))) (pss_one (ps_ret (pe_lockV (pv 4)))))), fun B xs M Φ Ψ hB h => ?_⟩)
  · obtain ⟨g, x, c, m, v, rms, ts, k, rfl, _⟩ := h
    rfl
  · obtain ⟨g, x, c, m, v, rms, ts, k, rfl, rfl, hrm, hm, hv, ht, ht2, hk, p⟩ := h
    have hn1 := hrm.n1
    have hnm := hrm.nm
    refine as_seq (as_asgN (ae_newD ?_))
    refine as_seq (as_for (n := 2) (fun i σ M => ∃ (g x c : Int) (pm : Pm) (a5 a6 : Option AV), σ = [some (.m 0), some (.d (.lst (rms.map Rm.t))), some (.d (.lst (ts.map D.int))), some (.d (.int k)), some (.m 1), a5, a6] ∧ M = [bag g x c, dM (pkD pm)] ∧ PkOk rms ts pm ∧ pm.length ≤ i)
      (fun i σ M ⟨_, _, _, _, _, _, _, e, _⟩ => by rw [e]; rfl) (ai_rng1 (aa_cons ?_)))
    walk_at "alo"
    refine take_sent rfl (by omega) (by omega) fun r g1 x1 c1 r0 r1 => ?_
    refine aa_nil ⟨r, rfl, by omega, by omega, ⟨g1, x1, c1, [], none, none, rfl, rfl, ⟨List.nodup_nil, by simp, by simp, by simp⟩, Nat.le_refl _⟩, fun i d σ' M' hd hi => ?_, fun σ' M' hi => ?_⟩
    · obtain ⟨g, x, c, pm, a5, a6, rfl, rfl, hp, hl⟩ := hi
      obtain ⟨hlt, rfl⟩ := rngD_get hd
      refine ag_name (as_seq ?_)
      walk_at "alo"
      rw [List.length_map]
      refine take_sent rfl (by omega) (by omega) fun r2 g2 x2 c2 r20 r21 => ?_
      obtain ⟨y, hy, hym, hya⟩ := rm_at r20 r21
      have hys := hrm.ok y hym
      have hy1 := hys.s1
      have hyw := hys.sw
      walk_at "alo"
      refine ur_ixL hya (ae_int (ur_ixT (d := .int y.size) rfl (aa_nil ?_)))
      refine take_sent rfl (by omega) (by omega) fun r3 g3 x3 c3 r30 r31 => ?_
      refine ag_put (ae_var rfl (ae_tupK (aa_cons (ae_var rfl (aa_cons ?_)))))
      walk_at "alo"
      rw [List.length_map]
      refine take_sent rfl (by omega) (by omega) fun r4 g4 x4 c4 r40 r41 => ?_
      obtain ⟨t, htm, hta⟩ := int_at2 r40 r41
      refine ur_ixL hta (aa_nil ⟨key2 (r2, t), rfl, Nat.le_of_ble_eq_true rfl, 1, pkD pm, key2 (r2, t), rfl, rfl, rfl, ?_, ?_⟩)
      · unfold pkD
        rw [List.length_map, sizeLine_eq]; omega
      · rw [pkD_put]
        exact ⟨by simp [MO.below, bag, dM, AV.below], g4, x4, c4, putP pm (r2, t) r3, _, _, rfl, rfl, hp.put r20 r21 htm r30 hy r31, by have := putP_len pm (r2, t) r3; omega⟩
    · obtain ⟨g, x, c, pm, a5, a6, rfl, rfl, hp, hl⟩ := hi
      have hl2 : pm.length ≤ k := by
        unfold rngD at hl
        rw [List.length_map, List.length_range] at hl
        omega
      refine as_retLock (ae_var rfl ⟨[bag g x c], pkD pm, rfl, rfl, ?_, by simp [MO.below, bag], rt1 (l := []) (p pm g x c hp hl2)⟩)
      rw [hB]; exact Nat.le_refl _
end
end Wd
namespace Wd
open PySem PySem.Spec PyProof.Rows L2 Al Gx Nd Dt Lm Cb NdefX
variable [Al.TabList]
theorem sc__law_long : FnScope ["_law_bag_here", "_law_many", "_law_rooms_here", "_law_k", "_law_low", "_law_beats", "_law_high", "_law_aim"] ["_law_bag_here"] (defScope (top 34)) := ⟨rfl, rfl, rfl, by decide +kernel, rfl, by decide +kernel, by decide +kernel⟩
def ringR (n : Nat) (k : Nat) : Rm := ⟨[(k + 1 : Int) % n], 1, 0, [0]⟩
def ring (n : Nat) : List Rm := (List.range n).map (ringR n)
theorem ring_at {n : Nat} {k : Int} (h0 : 0 ≤ k) (h : k < n) : (ring n)[k.toNat]? = some (ringR n k.toNat) := by
  unfold ring
  rw [List.getElem?_map, List.getElem?_range (by omega)]; rfl
theorem ring_sizes {n : Nat} (i : Nat) (h : i < n) : ((ring n).map Rm.size).getD i 0 = 1 := by
  unfold ring
  rw [List.map_map, List.getD, List.getElem?_map, List.getElem?_range h]; rfl
theorem ring_rms {n : Nat} (h1 : 1 ≤ n) (h6 : n ≤ 6) : Rms (ring n) 6 1 := by
  have hl : (ring n).length = n := by unfold ring; rw [List.length_map, List.length_range]
  refine ⟨by omega, by omega, fun x hx => ?_⟩
  obtain ⟨k, hk, rfl⟩ := List.mem_map.mp hx
  have hk := List.mem_range.mp hk
  have q0 : 0 ≤ ((k : Int) + 1) % n := Int.emod_nonneg _ (by omega)
  have q1 : ((k : Int) + 1) % n < n := Int.emod_lt_of_pos _ (by omega)
  refine ⟨List.pairwise_singleton _ _, Nat.le_of_ble_eq_true rfl, fun e he => ?_, Int.le_refl 1, Int.le_refl 1, Int.le_refl 0, (by decide : (0 : Int) < 1), fun t ht => ?_, ?_⟩
  · rw [List.mem_singleton.mp he, hl]
    exact ⟨q0, q1⟩
  · rw [List.mem_singleton.mp ht]
    exact ⟨by decide, by show (0 : Int) < 1; decide⟩
  · show (1 : Int) = prodI _ [((k : Int) + 1) % n] 1
    unfold prodI
    rw [ring_sizes _ (by omega)]
    rfl
theorem ring_ears {n : Nat} {k : Int} (h0 : 0 ≤ k) (h : k < n) : ears ((ring n).map Rm.rd) k = [(k + 1) % n] := by
  rw [ears_rmsG (ring_at h0 h)]
  show [((k.toNat : Nat) + 1 : Int) % n] = _
  rw [show ((k.toNat : Nat) : Int) = k from by omega]
theorem ring_down {n : Nat} (h1 : 1 ≤ n) {b : Int} : ∀ (k : Nat) (a : Cell), AtD (ears ((ring n).map Rm.rd)) (knB []) (0, b) k a → a = ((k : Int) % n, b - k)
  | 0, a, h => by
    cases h
    simp
  | k + 1, a, h => by
    cases h with
    | @dn _ x j h hk hj =>
      have := ring_down h1 k _ h
      subst this
      have q0 : 0 ≤ (k : Int) % n := Int.emod_nonneg _ (by omega)
      have q1 : (k : Int) % n < n := Int.emod_lt_of_pos _ (by omega)
      rw [ring_ears q0 q1] at hj
      rw [List.mem_singleton.mp hj]
      show (((k : Int) % n + 1) % n, b - k - 1) = _
      rw [Int.emod_add_emod]
      refine Prod.ext_iff.mpr ⟨rfl, ?_⟩
      show b - k - 1 = b - ((k + 1 : Nat) : Int)
      omega
theorem ring_up {n : Nat} (h1 : 1 ≤ n) {b : Int} : ∀ (k : Nat), (k : Int) ≤ b → AtD (ears ((ring n).map Rm.rd)) (knB []) (0, b) k ((k : Int) % n, b - k)
  | 0, _ => by
    have := AtD.top (ear := ears ((ring n).map Rm.rd)) (kn := knB []) (c := (0, b))
    simpa using this
  | k + 1, h => by
    have ih := ring_up h1 (b := b) k (by omega)
    have q0 : 0 ≤ (k : Int) % n := Int.emod_nonneg _ (by omega)
    have q1 : (k : Int) % n < n := Int.emod_lt_of_pos _ (by omega)
    have hk : knB [] ((k : Int) % n, b - k) = false := by
      unfold knB pokedB
      rw [decide_eq_false (show ¬ b - (k : Int) = 0 by omega)]; rfl
    have := AtD.dn ih hk (j := ((k + 1 : Nat) : Int) % n) (by
      rw [ring_ears q0 q1, List.mem_singleton, Int.emod_add_emod]; rfl)
    rw [show b - ((k + 1 : Nat) : Int) = b - k - 1 from by omega]
    exact this
theorem IsWayD.need {ear : Int → List Int} {kn : Cell → Bool} {c goal : Cell} {ws : List Cell} (N : IsWayD ear kn c goal ws) : NeedC ear kn [c] goal := by
  have go : ∀ (i : Nat) (b : Cell), ws[i]? = some b → NeedC ear kn [c] b := by
    intro i
    induction i with
    | zero => intro b hb; rw [N.first] at hb; cases hb; exact .base List.mem_cons_self
    | succ i ih =>
      intro b hb
      have hlt := (List.getElem?_eq_some_iff.mp hb).1
      have hd : ws[i]? = some ws[i] := List.getElem?_eq_getElem (by omega)
      obtain ⟨h1, h2, h3⟩ := N.step i _ _ hd hb
      have := NeedC.step (ih _ hd) h3 h1
      rw [← h2] at this
      exact this
  exact go _ _ N.last
theorem IsWayD.room {rms : List Rm} {m v : Int} (R : Rms rms m v) {kn : Cell → Bool} {c goal : Cell} {ws : List Cell} (hc : 0 ≤ c.1 ∧ c.1 < rms.length) (N : IsWayD (ears (rms.map Rm.rd)) kn c goal ws) : ∀ y ∈ ws, 0 ≤ y.1 ∧ y.1 < rms.length := by
  intro y hy
  obtain ⟨i, hi, rfl⟩ := List.getElem_of_mem hy
  cases i with
  | zero =>
    have := N.first
    rw [List.getElem?_eq_getElem hi] at this
    rw [Option.some.inj this]
    exact hc
  | succ i =>
    have hd : ws[i]? = some ws[i] := List.getElem?_eq_getElem (by omega)
    have h1 := (N.step i _ _ hd (List.getElem?_eq_getElem hi)).1
    have := (ears_in (heard_ok R) (k := (ws[i]).1)).1 _ h1
    rw [List.length_map] at this
    exact this
theorem sentV {M : List MO} {Φ : AV → List MO → Prop} {Ψ : Exc → List MO → Prop} {asp : ASp} {ys : List D} (mono : Mono asp) (h : asp (ys.map AV.d) [] (fun x M' => (∃ l, M' = [.lst l] ∧ x = .m 0 ∧ Φ (.m M.length) (M ++ [.lst l])) ∨ (M' = [] ∧ ∃ d, x = .d d ∧ Φ (.d d) M)) (fun x M' => M' = [] ∧ Ψ x M)) : Sent asp (ys.map AV.d) M Φ Ψ := by
  refine ⟨[], ys.map AV.d, .nil, rfl, rfl, (map_ren ys).symm, all_below ys _, mono _ _ _ _ _ _ (fun x M' e => ?_) (fun x M' ⟨e, p⟩ => ?_) h⟩
  · rcases e with ⟨l, e, ex, p⟩ | ⟨e, d, ex, p⟩
    · subst e; subst ex
      exact ⟨[], [.lst l], rfl, rfl, by show Φ (.m (M.length + 0)) (Al.putK M [] [] ++ [.lst l]); unfold Al.putK; exact p⟩
    · subst e; subst ex
      exact ⟨[], [], rfl, rfl, by show Φ (.d d) (Al.putK M [] [] ++ []); rw [List.append_nil]; unfold Al.putK; exact p⟩
  · subst e
    exact ⟨[], [], rfl, rfl, by show Ψ x (Al.putK M [] [] ++ []); rw [List.append_nil]; unfold Al.putK; exact p⟩
theorem way_sent {C CW : Addr} {M : List MO} {rms : List Rm} {m v : Int} {c goal : Cell} {pm : Pm} {d : D} {Φ : AV → List MO → Prop} {Ψ : Exc → List MO → Prop} (R : Rms rms m v) (hm : m ≤ 12) (hp : PkV [] (.d d) pm) (hc : 0 ≤ c.1 ∧ c.1 < rms.length) (hb : c.2 - goal.2 ≤ 100000)
    (q : ∀ ws, IsWayD (ears (rms.map Rm.rd)) (knB pm) c goal ws → ws.length ≤ 100001 → NeedC (ears (rms.map Rm.rd)) (knB pm) [c] goal → (∀ y ∈ ws, 0 ≤ y.1 ∧ y.1 < rms.length) → Φ (.m M.length) (M ++ [.lst (ws.map pk)])) (q0 : ¬ NeedC (ears (rms.map Rm.rd)) (knB pm) [c] goal → Φ (.d .non) M) : Sent (aWay C CW) [.d (webV C CW (rms.map Rm.rd)), .d (pk c), .d (pk goal), .d d] M Φ Ψ :=
  sentV (ys := [webV C CW (rms.map Rm.rd), pk c, pk goal, d]) mono_way ⟨rms.map Rm.rd, c, goal, pm, d, rfl, rfl, hp, heard_ok R, by have := R.nm; rw [List.length_map]; omega, by rw [List.length_map]; exact hc, hb, fun ws hw hl => .inl ⟨_, rfl, rfl, q ws hw hl hw.need (hw.room R hc)⟩, fun z => .inr ⟨rfl, _, rfl, q0 z⟩⟩
theorem rtBl {Φ : AV → List MO → Prop} {d : D} {g x c : Int} {r : List MO} (h : Φ (.d d) [bag g x c]) : RT 1 Φ (.d d) (bag g x c :: r) := Or.inl ⟨1, .d d, Nat.le_refl _, .dat, by simp [MO.below, bag], h⟩
def aLongW : ASp := fun xs M Φ _ => ∃ g x c : Int, xs = [.m 0] ∧ M = [bag g x c] ∧ ∀ g' x' c', Φ (.d (.bl true)) [bag g' x' c']
theorem mono_longW : Mono aLongW := fun xs M Φ Φ' Ψ Ψ' h1 _ ⟨g, x, c, e1, e2, p⟩ => ⟨g, x, c, e1, e2, fun a b d => h1 _ _ (p a b d)⟩
local macro_rules | `(tactic| walk_at "alside") => `(tactic| first
  | decide
  | (dsimp only; decide)
  | exact Or.inr (by decide)
  | exact Or.inl (by decide)
  | (dsimp only; omega)
  | (unfold CDiv; omega)
  | (unfold CPow; omega)
  | (unfold CMul; omega)
  | assumption)
local macro_rules | `(tactic| walk_at "al1") => `(tactic| first
  | with_reducible refine as_asg ?_
  | with_reducible refine as_drop ?_
  | with_reducible refine as_ret ?_
  | with_reducible refine as_if ?_
  | with_reducible refine as_next ?_
  | with_reducible refine at_test ?_
  | with_reducible refine at_b ?_
  | with_reducible refine at_and ?_
  | with_reducible refine at_or ?_
  | with_reducible refine at_not ?_
  | with_reducible refine ae_op ?_
  | with_reducible refine ae_un ?_
  | with_reducible refine ae_cb ?_
  | with_reducible refine ae_if ?_
  | with_reducible refine ae_andV ?_
  | with_reducible refine ae_orV ?_
  | with_reducible refine ae_notV ?_
  | with_reducible refine ae_chain ?_
  | with_reducible refine ae_int ?_
  | with_reducible refine ae_bl ?_
  | with_reducible refine ae_non ?_
  | with_reducible refine ae_str ?_
  | with_reducible refine ae_ty ?_
  | with_reducible refine ae_adr ?_
  | with_reducible refine aa_nil ?_
  | with_reducible refine aa_cons ?_
  | with_reducible refine ag_name ?_
  | with_reducible refine ag_sub ?_
  | with_reducible refine at_yes ?_
  | ((with_reducible show AE _ _ (tVar _) _ _ _); refine ae_var rfl ?_)
  | ((with_reducible show AR _ _ (uAdd _) _ _ _ _); refine ur_addI ?_)
  | ((with_reducible show AR _ _ (uMul _) _ _ _ _); refine ur_mulI (by walk_at "alside") ?_)
  | ((with_reducible show AR _ _ (uEq _) _ _ _ _); first | refine ur_eqI ?_ | refine ur_eqS ?_ | refine ur_eqB ?_)
  | ((with_reducible show AR _ _ (uNe _) _ _ _ _); first | refine ur_neI ?_ | refine ur_neS ?_ | refine ur_neB ?_)
  | ((with_reducible show AR _ _ (rIx _) _ _ _ _); first | refine ur_ixM rfl rfl ?_ | refine ur_ixL rfl ?_ | refine ur_ixT rfl ?_ | refine ur_ixS rfl ?_)
  | ((with_reducible show AC _ _ (uLen _) _ _ _); first | refine uc_len (.tup _) ?_ | refine uc_len (.lst _) ?_ | refine uc_len (.scr _) ?_ | refine uc_len (.mm rfl) ?_)
  | ((with_reducible show AR _ _ (rI0 _) _ _ _ _); first | with_reducible refine ar_i0 ?_ | with_reducible refine ar_b0 ?_)
  | ((with_reducible show AU _ _ (rU _) _ _ _); with_reducible refine au_i ?_)
  | ((with_reducible show AR _ _ (rI _ _) _ _ _ _); refine ar_i (by walk_at "alside") ?_)
  | ((with_reducible show AR _ _ (rIxL _) _ _ _ _); first | refine ar_ixM rfl rfl ?_ | refine ar_ixL rfl ?_ | refine ar_ixS rfl ?_)
  | ((with_reducible show AR _ _ (rIxT _) _ _ _ _); refine ar_ixT rfl ?_)
  | ((with_reducible show AR _ _ rEq _ _ _ _); first | with_reducible refine ar_eqI ?_ | with_reducible refine ar_eqS ?_ | with_reducible refine ar_eqB ?_)
  | ((with_reducible show AR _ _ rNe _ _ _ _); first | with_reducible refine ar_neI ?_ | with_reducible refine ar_neS ?_ | with_reducible refine ar_neB ?_))
local macro_rules | `(tactic| walk_at "alds") => `(tactic| first
  | refine ⟨[], rfl, Nat.le_of_ble_eq_true rfl, ?_⟩
  | refine ⟨[_], rfl, Nat.le_of_ble_eq_true rfl, ?_⟩
  | refine ⟨[_, _], rfl, Nat.le_of_ble_eq_true rfl, ?_⟩
  | refine ⟨[_, _, _], rfl, Nat.le_of_ble_eq_true rfl, ?_⟩
  | refine ⟨[_, _, _, _], rfl, Nat.le_of_ble_eq_true rfl, ?_⟩
  | refine ⟨[_, _, _, _, _], rfl, Nat.le_of_ble_eq_true rfl, ?_⟩
  | refine ⟨[_, _, _, _, _, _], rfl, Nat.le_of_ble_eq_true rfl, ?_⟩
  | refine ⟨[_, _, _, _, _, _, _], rfl, Nat.le_of_ble_eq_true rfl, ?_⟩
  | refine ⟨[_, _, _, _, _, _, _, _], rfl, Nat.le_of_ble_eq_true rfl, ?_⟩
  | refine ⟨[_, _, _, _, _, _, _, _, _], rfl, Nat.le_of_ble_eq_true rfl, ?_⟩
  | refine ⟨[_, _, _, _, _, _, _, _, _, _], rfl, Nat.le_of_ble_eq_true rfl, ?_⟩
  | refine ⟨[_, _, _, _, _, _, _, _, _, _, _], rfl, Nat.le_of_ble_eq_true rfl, ?_⟩
  | refine ⟨[_, _, _, _, _, _, _, _, _, _, _, _], rfl, Nat.le_of_ble_eq_true rfl, ?_⟩)
local macro_rules | `(tactic| walk_at "alc") => `(tactic| refine ae_call0 (Ψ := fun _ _ => False) (by walk_at "almono") efits_none ?_)
local macro_rules | `(tactic| walk_at "al") => `(tactic| repeat (first | walk_at "al1" | with_reducible refine as_seq ?_ | with_reducible refine ae_tup ?_ | with_reducible walk_at "alc" | refine ⟨_, rfl, ?_⟩ | walk_at "alds" | refine ⟨_, _, _, _, _, rfl, rfl, rfl, rfl, rfl, ?_⟩))
local macro_rules | `(tactic| walk_at "alF") => `(tactic| repeat (first | walk_at "al1" | with_reducible refine as_seq ?_ | with_reducible refine ae_tup ?_ | with_reducible refine ae_lst ?_ | with_reducible walk_at "alc" | refine ⟨_, rfl, ?_⟩ | walk_at "alds" | refine ⟨_, _, _, _, _, rfl, rfl, rfl, rfl, rfl, ?_⟩))
local macro_rules | `(tactic| walk_at "alo") => `(tactic| repeat (first | walk_at "al1" | with_reducible refine ae_tup ?_ | with_reducible walk_at "alc" | refine ⟨_, rfl, ?_⟩ | walk_at "alds" | refine ⟨_, _, _, _, _, rfl, rfl, rfl, rfl, rfl, ?_⟩))
local macro_rules | `(tactic| walk_at "almono") => `(tactic| first | exact mono_take | exact mono_bag | exact mono_rms | exact mono_lawWeb)
section
variable {P : Program} {w : World} {K : PySem.W.Frag} {mg : Str → Option Value} {base : Heap} {C_Room C_Web : Addr}
theorem ok_longW (DD : DefAt K mg "_law_long" (top 34) ["_law_bag_here"]) (T : Bt mg)
    (G__law_take : FnAt P w K mg base CX0 1 "_law_take" ["_law_bag_here", "_law_many"] aTake)
    (G__law_web : FnAt P w K mg base CX0 10 "_law_web" ["_law_rooms_here"] (aLawWeb C_Room C_Web))
    (G__law_is_way : FnAt P w K mg base CX0 3 "_law_is_way" ["_law_rooms_here", "_law_put", "_law_told", "_law_high", "_law_aim"] aIsWayL)
    (G_way : FnAtK P w K mg base (L2.CX P w) 17 "way" ["web", "cell", "goal", "pokes"] (aWay C_Room C_Web) [(3, ["pokes"], [0, 1, 2, 4]), (3, [], [0, 1, 2, 3]), (0, ["web", "goal", "cell"], [1, 3, 2, 0])]) :
    FnAt P w K mg base CX0 20 "_law_long" ["_law_bag_here"] aLongW := by
  refine fnat DD sc__law_long (fun xs M Φ Ψ h => ?_) (fun f cdv A outer s H E hr => ⟨_, (pss_cons (ps_set (i := 1) sc__law_long.nd rfl (Or.inr rfl) (pe_op (k_add K) pe_int (pe_fn G__law_take (hr.mono (by decide)) rfl pass0 (pa_cons (pv 0) (pa_cons pe_int pa_nil))))) (pss_cons (ps_setLc (i := 2) (own := [("_law_k", 3)]) rfl sc__law_long.nd rfl rfl (sw_true rfl rfl rfl (by decide +kernel)) (pi_range1 rfl T.range (pa_cons (pv 1) pa_nil)) (blkOk_by (own := [("_law_k", 3)]) (N := ["_law_bag_here", "_law_many", "_law_rooms_here", "_law_k", "_law_low", "_law_beats", "_law_high", "_law_aim"]) (sc := defScope (top 34)) (by decide +kernel)) (fun _ _ _ _ _ => by exact (pg_name (i := 3) sc__law_long.nd rfl (Or.inl rfl))) (fun _ _ _ _ _ => by exact pts_nil) (fun _ _ _ _ _ => by exact (pe_tup (pa_cons (pe_tup (pa_cons (pe_op op_mod (pe_op (k_add K) (pv 3) pe_int) (pv 1)) pa_nil)) (pa_cons pe_int (pa_cons pe_int (pa_cons (pe_tup (pa_cons pe_int pa_nil)) pa_nil))))))) (pss_cons (ps_par (i := 4) (j := 5) rfl sc__law_long.nd rfl rfl (by decide) rfl rfl (pa_cons (pe_op (k_add K) (pe_ix (k_ix K) (pe_lst (pa_cons pe_int (pa_cons (pe_op op_pow pe_int pe_int) pa_nil))) (pe_fn G__law_take (hr.mono (by decide)) rfl pass0 (pa_cons (pv 0) (pa_cons pe_int pa_nil))) (fun _ _ => rfl)) (pe_fn G__law_take (hr.mono (by decide)) rfl pass0 (pa_cons (pv 0) (pa_cons pe_int pa_nil)))) (pa_cons (pe_op (k_add K) pe_int (pe_fn G__law_take (hr.mono (by decide)) rfl pass0 (pa_cons (pv 0) (pa_cons pe_int pa_nil)))) pa_nil)) rfl) (pss_cons (ps_par (i := 6) (j := 7) rfl sc__law_long.nd rfl rfl (by decide) rfl rfl (pa_cons (pe_tup (pa_cons pe_int (pa_cons (pe_op (k_add K) (pv 4) (pv 5)) pa_nil))) (pa_cons (pe_tup (pa_cons (pe_op op_mod (pv 5) (pv 1)) (pa_cons (pv 4) pa_nil))) pa_nil)) rfl) (pss_cons (ps_if (pt_not (pt_val (pe_fn G__law_is_way (hr.mono (by decide)) rfl pass0 (pa_cons (pv 2) (pa_cons (pe_lockV pe_dnewT) (pa_cons (pe_fnP (3, [], [0, 1, 2, 3]) G_way (by decide) (hr.mono (by decide)) rfl passF (pa_cons (pe_fn G__law_web (hr.mono (by decide)) rfl pass0 (pa_cons (pv 2) pa_nil)) (pa_cons (pv 6) (pa_cons (pv 7) pa_nil))) pk_nil) (pa_cons (pv 6) (pa_cons (pv 7) pa_nil)))))))) (pss_one (ps_ret pe_bl)) pss_nil) (pss_one (ps_ret (pe_or (pe_cmpR (k_eq K hr.units) (pv 1) pe_int (nomark _)) (pe_one (pe_cmpR op_isN (pe_fnP (3, [], [0, 1, 2, 3]) G_way (by decide) (hr.mono (by decide)) rfl passF (pa_cons (pe_fn G__law_web (hr.mono (by decide)) rfl pass0 (pa_cons (pv 2) pa_nil)) (pa_cons (pv 6) (pa_cons (pe_tup (pa_cons (pe_op op_mod (pe_op (k_add K) (pv 5) pe_int) (pv 1)) (pa_cons (pv 4) pa_nil))) pa_nil))) pk_nil) pe_non (nomark _))))))))))), fun B xs M Φ Ψ hB h => ?_⟩)
  · obtain ⟨g, x, c, rfl, _⟩ := h
    rfl
  · obtain ⟨g, x, c, rfl, rfl, p⟩ := h
    refine as_seq ?_
    walk_at "alo"
    refine take_sent rfl (by decide) (by decide) fun r g2 x2 c2 r0 r1 => ?_
    obtain ⟨n, n1, n6, en⟩ : ∃ n : Nat, 1 ≤ n ∧ n ≤ 6 ∧ (1 + r) = (n : Int) := ⟨(1 + r).toNat, by omega, by omega, by omega⟩
    walk_at "alo"
    rw [en]
    have hB1 : [bag g2 x2 c2].all (MO.below 1) = true := by simp [MO.below, bag]
    refine as_seq <| as_asgN <| ae_map (l := rngD 0 n) (fun d => (ringR n (toI d).toNat).t) hB1 (gk_name rfl) (by rw [rngD_len, sizeLine_eq]; omega) (ai_rng1 <| aa_cons <| ae_var rfl <| aa_nil ⟨_, rfl, by omega, by omega, rfl, rfl, ?_⟩) fun d hd acc => ?_
    · have el : (rngD 0 n).map (fun d => (ringR n (toI d).toNat).t) = (ring n).map Rm.t := by
        unfold rngD ring
        rw [List.map_map, List.map_map]
        refine List.map_congr_left fun k _ => ?_
        show (ringR n ((0 : Int) + (k : Int)).toNat).t = (ringR n k).t
        rw [show ((0 : Int) + (k : Int)).toNat = k from by omega]
      rw [el]
      refine as_seq <| as_par <| aa_cons <| ae_op <| ae_op <| ae_lst <| aa_cons <| ae_int <| aa_cons <| ae_op <| ae_int <| ae_int <| ar_i ⟨by decide, by decide, by decide⟩ <| aa_nil ⟨[.int 0, .int (10 ^ 59)], rfl, Nat.le_of_ble_eq_true rfl, ae_call0 (Ψ := fun _ _ => False) mono_take efits_none <| aa_cons <| ae_var rfl <| aa_cons <| ae_int <| aa_nil <| take_sent rfl (by decide) (by decide) fun r3 g3 x3 c3 r30 r31 => ?_⟩
      obtain ⟨lo, lo0, hat⟩ : ∃ lo : Int, 0 ≤ lo ∧ atI [Al.D.int 0, .int (10 ^ 59)] r3 = some (.int lo) := by
        rcases show r3 = 0 ∨ r3 = 1 by omega with rfl | rfl
        · exact ⟨0, by decide, rfl⟩
        · exact ⟨10 ^ 59, by decide +kernel, rfl⟩
      refine ur_ixL hat <| ae_call0 (Ψ := fun _ _ => False) mono_take efits_none <| aa_cons <| ae_var rfl <| aa_cons <| ae_int <| aa_nil <| take_sent rfl (by decide) (by decide) fun r4 g4 x4 c4 r40 r41 => ur_addI <| aa_cons <| ae_op <| ae_int <| ae_call0 (Ψ := fun _ _ => False) mono_take efits_none <| aa_cons <| ae_var rfl <| aa_cons <| ae_int <| aa_nil <| take_sent rfl (by decide) (by decide) fun r5 g5 x5 c5 r50 r51 => ur_addI <| aa_nil ⟨_, _, rfl, ?_⟩
      obtain ⟨low, l0, el⟩ : ∃ low : Int, 0 ≤ low ∧ lo + r4 = low := ⟨_, by omega, rfl⟩
      obtain ⟨bt, b1, b2, eb⟩ : ∃ bt : Nat, 1000 ≤ bt ∧ bt ≤ 2000 ∧ 1000 + r5 = (bt : Int) := ⟨(1000 + r5).toNat, by omega, by omega, by omega⟩
      rw [el, eb]
      refine as_seq <| as_par <| aa_cons <| ae_tupK <| aa_cons <| ae_int <| aa_cons <| ae_op <| ae_var rfl <| ae_var rfl <| ur_addI <| aa_nil ⟨key2 (0, low + bt), rfl, Nat.le_of_ble_eq_true rfl, aa_cons <| ae_tupK <| aa_cons <| ae_op <| ae_var rfl <| ae_var rfl <| ar_i (by omega) <| aa_cons <| ae_var rfl <| aa_nil ⟨key2 ((bt : Int) % n, low), rfl, Nat.le_of_ble_eq_true rfl, aa_nil ⟨_, _, rfl, ?_⟩⟩⟩
      have hl : (ring n).length = n := by unfold ring; rw [List.length_map, List.length_range]
      have R := ring_rms n1 n6
      have hB : ∀ o ∈ [bag g5 x5 c5], o.below [bag g5 x5 c5].length = true := by simp [MO.below, bag]
      refine as_seq <| as_if <| at_not <| at_test <| ae_call0 (Ψ := fun _ _ => False) mono_isWayL efits_none <| aa_cons <| ae_var rfl <| aa_cons <| ae_lockV <| ae_newD ⟨[bag g5 x5 c5], [], rfl, rfl, Nat.le_refl _, hB, aa_cons <| ae_froz (n := 1) (Nat.le_refl _) <| ae_callD (Ψ := fun _ _ => False) mono_way efits_none <| aa_cons <| ae_call0 (Ψ := fun _ _ => False) mono_lawWeb efits_none <| aa_cons <| ae_var rfl <| aa_nil <| sent0 (ys := [.lst ((ring n).map Rm.t)]) mono_lawWeb ⟨ring n, 6, 1, rfl, rfl, R, by decide, by decide, ⟨rfl, _, rfl, aa_cons <| ae_var rfl <| aa_cons <| ae_var rfl <| aa_nil <| aa_nil ⟨rfl, rfl, ?_⟩⟩⟩⟩
      refine way_sent (pm := []) (c := (0, low + bt)) (goal := ((bt : Int) % n, low)) R (by decide) .non ⟨Int.le_refl 0, by show (0 : Int) < (ring n).length; omega⟩ (by show low + (bt : Int) - low ≤ 100000; omega) (fun ws hw hwl _ hr => ?_) fun z => ?_
      rotate_left
      · have := (ring_up n1 (b := low + bt) bt (by omega)).need
        rw [show low + (bt : Int) - bt = low from by omega] at this
        exact absurd this z
      refine ⟨.d (.lst (ws.map pk)), .lst (Nat.le_refl _) rfl, hB, aa_cons <| ae_var rfl <| aa_cons <| ae_var rfl <| aa_nil <| sent0 (ys := [.lst ((ring n).map Rm.t), dD (pkD []), .lst (ws.map pk), pk (0, low + bt), pk ((bt : Int) % n, low)]) mono_isWayL ⟨ring n, [], ws, _, _, rfl, rfl, fun _ _ _ => trivial, hw, hwl, hr, rfl, _, rfl, ⟨_, rfl, (fun z => nomatch z), fun _ => as_next ?_⟩⟩⟩
      refine as_ret <| ae_orV <| ae_op <| ae_var rfl <| ae_int <| ur_eqI ⟨_, rfl, fun _ => rtBl (p _ _ _), fun hn => ?_⟩
      have hn : (n : Int) ≠ 1 := by simpa using hn
      refine ae_op <| ae_callD (Ψ := fun _ _ => False) mono_way efits_none <| aa_cons <| ae_call0 (Ψ := fun _ _ => False) mono_lawWeb efits_none <| aa_cons <| ae_var rfl <| aa_nil <| sent0 (ys := [.lst ((ring n).map Rm.t)]) mono_lawWeb ⟨ring n, 6, 1, rfl, rfl, R, by decide, by decide, ⟨rfl, _, rfl, aa_cons <| ae_var rfl <| aa_cons <| ae_tupK <| aa_cons <| ae_op <| ae_op <| ae_var rfl <| ae_int <| ur_addI <| ae_var rfl <| ar_i (by omega) <| aa_cons <| ae_var rfl <| aa_nil ⟨key2 (((bt : Int) + 1) % n, low), rfl, Nat.le_of_ble_eq_true rfl, aa_nil <| aa_nil ⟨rfl, rfl, ?_⟩⟩⟩⟩
      refine way_sent (pm := []) (c := (0, low + bt)) (goal := (((bt : Int) + 1) % n, low)) R (by decide) .non ⟨Int.le_refl 0, by show (0 : Int) < (ring n).length; omega⟩ (by show low + (bt : Int) - low ≤ 100000; omega) (fun ws hw hwl hN hr => ?_) fun z => ae_non <| ar_isN <| rtBl (p _ _ _)
      obtain ⟨k, hk⟩ := need_atD hN
      have e := ring_down n1 k _ hk
      have e1 := (Prod.ext_iff.mp e).1
      have e2 := (Prod.ext_iff.mp e).2
      have e1 : ((bt : Int) + 1) % n = (k : Int) % n := e1
      have e2 : low = low + bt - k := e2
      have e3 : (k : Int) = bt := by omega
      rw [e3] at e1
      have h3 : (((bt : Int) + 1) - bt) % n = 0 := Int.emod_eq_emod_iff_emod_sub_eq_zero.mp e1
      rw [show ((bt : Int) + 1) - bt = 1 from by omega] at h3
      rw [Int.emod_eq_of_lt (by decide) (by omega)] at h3
      cases h3
    · obtain ⟨k, hk, rfl⟩ : ∃ k : Nat, k < n ∧ d = .int (k : Int) := by
        unfold rngD at hd
        obtain ⟨k, hk, e⟩ := List.mem_map.mp hd
        exact ⟨k, List.mem_range.mp hk, by rw [← e]; show Al.D.int ((0 : Int) + k) = _; rw [Int.zero_add]⟩
      refine ag_name <| ae_tup <| aa_cons <| ae_tup <| aa_cons <| ae_op <| ae_op <| ae_var rfl <| ae_int <| ur_addI <| ae_var rfl <| ar_i (by omega) <| aa_nil ⟨[.int (((k : Int) + 1) % n)], rfl, Nat.le_of_ble_eq_true rfl, aa_cons <| ae_int <| aa_cons <| ae_int <| aa_cons <| ae_tup <| aa_cons <| ae_int <| aa_nil ⟨[.int 0], rfl, Nat.le_of_ble_eq_true rfl, aa_nil ⟨[.tup [.int (((k : Int) + 1) % n)], .int 1, .int 0, .tup [.int 0]], rfl, Nat.le_of_ble_eq_true rfl, rfl, rfl⟩⟩⟩
end
end Wd
namespace Wd
open PySem PySem.Spec PyProof.Rows L2 Al Gx Nd Dt Lm Cb NdefX
variable [Al.TabList]
def boxL (n : Nat) (lo : Int) (T : Nat) : List Cell := (List.range n).flatMap fun (r : Nat) => (List.range (T + 1)).map fun (b : Nat) => ((r : Int), lo + (b : Int))
theorem mem_boxL {n T : Nat} {lo : Int} {c : Cell} (h : 0 ≤ c.1 ∧ c.1 < n) (h1 : lo ≤ c.2) (h2 : c.2 ≤ lo + T) : c ∈ boxL n lo T :=
  List.mem_flatMap.mpr ⟨c.1.toNat, List.mem_range.mpr (by omega), List.mem_map.mpr ⟨(c.2 - lo).toNat, List.mem_range.mpr (by omega), Prod.ext (by show ((c.1.toNat : Nat) : Int) = c.1; omega) (by show lo + (((c.2 - lo).toNat : Nat) : Int) = c.2; omega)⟩⟩
theorem boxL_hash0 : ((boxL 6 0 32).map hash2).Nodup := by decide +kernel
theorem boxL_hash1 : ((boxL 6 (10 ^ 50 - 16) 32).map hash2).Nodup := by decide +kernel
theorem boxL_len : ∀ lo : Int, (boxL 6 lo 32).length = 198 := fun lo => by
  unfold boxL
  rw [List.length_flatMap]
  simp only [List.length_map, List.length_range]
  rfl
theorem nodup_injL {α β : Type} {f : α → β} : ∀ {l : List α}, (l.map f).Nodup → ∀ {a b : α}, a ∈ l → b ∈ l → f a = f b → a = b
  | [], _, _, _, ha, _, _ => nomatch ha
  | x :: l, h, a, b, ha, hb, e => by
    rw [List.map_cons, List.nodup_cons] at h
    rcases List.mem_cons.mp ha with e1 | h1
    · rcases List.mem_cons.mp hb with e2 | h2
      · rw [e1, e2]
      · exact absurd (List.mem_map.mpr ⟨b, h2, by rw [← e, e1]⟩) h.1
    · rcases List.mem_cons.mp hb with e2 | h2
      · exact absurd (List.mem_map.mpr ⟨a, h1, by rw [e, e2]⟩) h.1
      · exact nodup_injL h.2 h1 h2 e
theorem hashes_apartL {bx ps : List Cell} (hb : (bx.map hash2).Nodup) (nd : ps.Nodup) (h : ∀ c ∈ ps, c ∈ bx) : (ps.map hash2).Nodup :=
  List.pairwise_map.mpr (List.Pairwise.imp_of_mem (fun {a b} ha hb' hab e => hab (nodup_injL hb (h a ha) (h b hb') e)) nd)
theorem pokedB_iff {pm : Pm} {c : Cell} : pokedB pm c = true ↔ c ∈ pm.map Prod.fst := by
  unfold pokedB
  rw [List.any_eq_true, List.mem_map]
  exact ⟨fun ⟨p, h, e⟩ => ⟨p, h, of_decide_eq_true e⟩, fun ⟨p, h, e⟩ => ⟨p, h, decide_eq_true e⟩⟩
theorem putP_keys {pm : Pm} {c d : Cell} {v : Int} : d ∈ (putP pm c v).map Prod.fst ↔ d ∈ pm.map Prod.fst ∨ d = c := by
  unfold putP
  by_cases h : c ∈ pm.map Prod.fst
  · rw [if_pos h, List.map_map]
    have e : (Prod.fst ∘ fun p : Cell × Int => if p.1 = c then (p.1, v) else p) = Prod.fst := by
      funext p
      show (if p.1 = c then (p.1, v) else p).1 = p.1
      split <;> rfl
    rw [e]
    exact ⟨.inl, fun z => z.elim id fun z => z ▸ h⟩
  · rw [if_neg h, List.map_append, List.mem_append]
    exact or_congr Iff.rfl List.mem_singleton
def putsP (a ps : Pm) : Pm := ps.foldl (fun a p => putP a p.1 p.2) a
theorem putsP_keys {d : Cell} : ∀ {ps a : Pm}, d ∈ (putsP a ps).map Prod.fst ↔ d ∈ a.map Prod.fst ∨ d ∈ ps.map Prod.fst
  | [], a => by show d ∈ a.map Prod.fst ↔ _; simp
  | p :: ps, a => by
    show d ∈ (putsP (putP a p.1 p.2) ps).map Prod.fst ↔ _
    rw [putsP_keys, putP_keys, List.map_cons, List.mem_cons, or_assoc]
theorem storG_pk : ∀ (ps a : Pm), storG (pkD a) (pkD ps) = pkD (putsP a ps)
  | [], a => rfl
  | p :: ps, a => by
    show storG (putG (pkD a) (key2 p.1) (.int p.2)) (pkD ps) = pkD (putsP (putP a p.1 p.2) ps)
    rw [pkD_put]
    exact storG_pk ps _
theorem putsG_pk (ps a : Pm) : putsG (pkD a) (pkD ps) = pkD (putsP a ps) := by
  rw [← storG_pk]
  rfl
theorem putsP_len : ∀ (ps a : Pm), (putsP a ps).length ≤ a.length + ps.length
  | [], a => Nat.le_refl _
  | p :: ps, a => by
    have h1 := putsP_len ps (putP a p.1 p.2)
    have h2 := putP_len a p.1 p.2
    show (putsP (putP a p.1 p.2) ps).length ≤ _
    rw [List.length_cons]
    omega
theorem need_ends {ear : Int → List Int} {kn knE : Cell → Bool} {n : Nat} {low : Int} {c0 : Cell} (hear : ∀ k j, j ∈ ear k → 0 ≤ j ∧ j < n) (h1 : 0 ≤ c0.1 ∧ c0.1 < n) (h2 : low ≤ c0.2)
    (hE : ∀ c : Cell, knE c = true ↔ kn c = true ∨ (c.2 = low ∧ 0 ≤ c.1 ∧ c.1 < n)) :
    (∀ c, NeedC ear knE [c0] c → (0 ≤ c.1 ∧ c.1 < n) ∧ low ≤ c.2 ∧ c.2 ≤ c0.2) ∧ ∀ c : Cell, low ≤ c.2 → (NeedC ear knE [c0] c ↔ NeedC ear kn [c0] c) := by
  have hf : ∀ c, knE c = false → kn c = false := fun c h => by
    cases hk : kn c with
    | false => rfl
    | true => rw [(hE c).mpr (.inl hk)] at h; cases h
  have rg : ∀ {kn' : Cell → Bool} c, NeedC ear kn' [c0] c → 0 ≤ c.1 ∧ c.1 < n := fun c h => by
    cases h with
    | base h => rw [List.mem_singleton.mp h]; exact h1
    | step _ _ hj => exact hear _ _ hj
  refine ⟨fun c h => ?_, fun c hc => ⟨fun h => ?_, fun h => ?_⟩⟩
  · induction h with
    | base h => rw [List.mem_singleton.mp h]; exact ⟨h1, h2, Int.le_refl _⟩
    | @step c j h hk hj ih =>
      obtain ⟨a1, a2, a3⟩ := ih
      refine ⟨hear _ _ hj, ?_, ?_⟩
      · show low ≤ c.2 - 1
        have : c.2 ≠ low := fun z => by
          rw [(hE c).mpr (.inr ⟨z, a1⟩)] at hk
          cases hk
        omega
      · show c.2 - 1 ≤ c0.2
        omega
  · clear hc
    induction h with
    | base h => exact .base h
    | step h hk hj ih => exact .step ih (hf _ hk) hj
  · induction h with
    | base h => exact .base h
    | @step c j h hk hj ih =>
      have hc : low ≤ c.2 - 1 := hc
      refine .step (ih (by omega)) ?_ hj
      cases hk2 : knE c with
      | false => rfl
      | true =>
        rcases (hE c).mp hk2 with z | ⟨z, _⟩
        · rw [hk] at z; cases z
        · omega
/-- the ends: all rooms at one beat -/
def endsP (n : Nat) (low : Int) : Pm := (List.range n).map fun (r : Nat) => (((r : Int), low), 0)
theorem endsP_mem {n : Nat} {low : Int} {c : Cell} : c ∈ (endsP n low).map Prod.fst ↔ c.2 = low ∧ 0 ≤ c.1 ∧ c.1 < n := by
  unfold endsP
  rw [List.map_map, List.mem_map]
  constructor
  · rintro ⟨r, h, rfl⟩
    have := List.mem_range.mp h
    exact ⟨rfl, by show (0 : Int) ≤ (r : Int); omega, by show (r : Int) < n; omega⟩
  · rintro ⟨h1, h2, h3⟩
    exact ⟨c.1.toNat, List.mem_range.mpr (by omega), Prod.ext (by show ((c.1.toNat : Nat) : Int) = c.1; omega) h1.symm⟩
theorem ends_kn {n : Nat} {low : Int} {pm : Pm} (c : Cell) : knB (putsP (putsP [] (endsP n low)) pm) c = true ↔ knB pm c = true ∨ (c.2 = low ∧ 0 ≤ c.1 ∧ c.1 < n) := by
  unfold knB
  rw [Bool.or_eq_true, Bool.or_eq_true, pokedB_iff, pokedB_iff, putsP_keys, putsP_keys, endsP_mem]
  simp only [List.map_nil, List.not_mem_nil, false_or]
  constructor
  · rintro (h | h | h)
    · exact .inl (.inl h)
    · exact .inr h
    · exact .inl (.inr h)
  · rintro ((h | h) | h)
    · exact .inl h
    · exact .inr (.inr h)
    · exact .inr (.inl h)
end Wd
namespace Wd
open PySem PySem.Spec PyProof.Rows L2 Al Gx Nd Dt Lm Cb NdefX
variable [Al.TabList]
theorem sc_law : FnScope ["_law_script", "_law_k", "_law_bag_here", "_law_rooms_here", "_law_lift", "_law_low", "_law_put", "_law_ends", "_law_due", "_law_goals", "_law_lent", "_law_aim", "_law_turn", "_law_bare", "_law_mine", "_law_high", "_law_told", "_law_one"] ["_law_script"] (defScope (top 35)) := ⟨rfl, rfl, rfl, by decide +kernel, rfl, by decide +kernel, by decide +kernel⟩
local macro_rules | `(tactic| walk_at "alside") => `(tactic| first
  | decide
  | (dsimp only; decide)
  | exact Or.inr (by decide)
  | exact Or.inl (by decide)
  | (dsimp only; omega)
  | (unfold CDiv; omega)
  | (unfold CPow; omega)
  | (unfold CMul; omega)
  | assumption)
local macro_rules | `(tactic| walk_at "al1") => `(tactic| first
  | with_reducible refine as_asg ?_
  | with_reducible refine as_drop ?_
  | with_reducible refine as_ret ?_
  | with_reducible refine as_if ?_
  | with_reducible refine as_next ?_
  | with_reducible refine at_test ?_
  | with_reducible refine at_b ?_
  | with_reducible refine at_and ?_
  | with_reducible refine at_or ?_
  | with_reducible refine at_not ?_
  | with_reducible refine ae_op ?_
  | with_reducible refine ae_un ?_
  | with_reducible refine ae_cb ?_
  | with_reducible refine ae_if ?_
  | with_reducible refine ae_andV ?_
  | with_reducible refine ae_orV ?_
  | with_reducible refine ae_notV ?_
  | with_reducible refine ae_chain ?_
  | with_reducible refine ae_int ?_
  | with_reducible refine ae_bl ?_
  | with_reducible refine ae_non ?_
  | with_reducible refine ae_str ?_
  | with_reducible refine ae_ty ?_
  | with_reducible refine ae_adr ?_
  | with_reducible refine aa_nil ?_
  | with_reducible refine aa_cons ?_
  | with_reducible refine ag_name ?_
  | with_reducible refine ag_sub ?_
  | with_reducible refine at_yes ?_
  | ((with_reducible show AE _ _ (tVar _) _ _ _); refine ae_var rfl ?_)
  | ((with_reducible show AR _ _ (uAdd _) _ _ _ _); refine ur_addI ?_)
  | ((with_reducible show AR _ _ (uMul _) _ _ _ _); refine ur_mulI (by walk_at "alside") ?_)
  | ((with_reducible show AR _ _ (uEq _) _ _ _ _); first | refine ur_eqI ?_ | refine ur_eqS ?_ | refine ur_eqB ?_)
  | ((with_reducible show AR _ _ (uNe _) _ _ _ _); first | refine ur_neI ?_ | refine ur_neS ?_ | refine ur_neB ?_)
  | ((with_reducible show AR _ _ (rIx _) _ _ _ _); first | refine ur_ixM rfl rfl ?_ | refine ur_ixL rfl ?_ | refine ur_ixT rfl ?_ | refine ur_ixS rfl ?_)
  | ((with_reducible show AC _ _ (uLen _) _ _ _); first | refine uc_len (.tup _) ?_ | refine uc_len (.lst _) ?_ | refine uc_len (.scr _) ?_ | refine uc_len (.mm rfl) ?_)
  | ((with_reducible show AR _ _ (rI0 _) _ _ _ _); first | with_reducible refine ar_i0 ?_ | with_reducible refine ar_b0 ?_)
  | ((with_reducible show AU _ _ (rU _) _ _ _); with_reducible refine au_i ?_)
  | ((with_reducible show AR _ _ (rI _ _) _ _ _ _); refine ar_i (by walk_at "alside") ?_)
  | ((with_reducible show AR _ _ (rIxL _) _ _ _ _); first | refine ar_ixM rfl rfl ?_ | refine ar_ixL rfl ?_ | refine ar_ixS rfl ?_)
  | ((with_reducible show AR _ _ (rIxT _) _ _ _ _); refine ar_ixT rfl ?_)
  | ((with_reducible show AR _ _ rEq _ _ _ _); first | with_reducible refine ar_eqI ?_ | with_reducible refine ar_eqS ?_ | with_reducible refine ar_eqB ?_)
  | ((with_reducible show AR _ _ rNe _ _ _ _); first | with_reducible refine ar_neI ?_ | with_reducible refine ar_neS ?_ | with_reducible refine ar_neB ?_))
local macro_rules | `(tactic| walk_at "alds") => `(tactic| first
  | refine ⟨[], rfl, Nat.le_of_ble_eq_true rfl, ?_⟩
  | refine ⟨[_], rfl, Nat.le_of_ble_eq_true rfl, ?_⟩
  | refine ⟨[_, _], rfl, Nat.le_of_ble_eq_true rfl, ?_⟩
  | refine ⟨[_, _, _], rfl, Nat.le_of_ble_eq_true rfl, ?_⟩
  | refine ⟨[_, _, _, _], rfl, Nat.le_of_ble_eq_true rfl, ?_⟩
  | refine ⟨[_, _, _, _, _], rfl, Nat.le_of_ble_eq_true rfl, ?_⟩
  | refine ⟨[_, _, _, _, _, _], rfl, Nat.le_of_ble_eq_true rfl, ?_⟩
  | refine ⟨[_, _, _, _, _, _, _], rfl, Nat.le_of_ble_eq_true rfl, ?_⟩
  | refine ⟨[_, _, _, _, _, _, _, _], rfl, Nat.le_of_ble_eq_true rfl, ?_⟩
  | refine ⟨[_, _, _, _, _, _, _, _, _], rfl, Nat.le_of_ble_eq_true rfl, ?_⟩
  | refine ⟨[_, _, _, _, _, _, _, _, _, _], rfl, Nat.le_of_ble_eq_true rfl, ?_⟩
  | refine ⟨[_, _, _, _, _, _, _, _, _, _, _], rfl, Nat.le_of_ble_eq_true rfl, ?_⟩
  | refine ⟨[_, _, _, _, _, _, _, _, _, _, _, _], rfl, Nat.le_of_ble_eq_true rfl, ?_⟩)
local macro_rules | `(tactic| walk_at "alc") => `(tactic| refine ae_call0 (Ψ := fun _ _ => False) (by walk_at "almono") efits_none ?_)
local macro_rules | `(tactic| walk_at "al") => `(tactic| repeat (first | walk_at "al1" | with_reducible refine as_seq ?_ | with_reducible refine ae_tup ?_ | with_reducible walk_at "alc" | refine ⟨_, rfl, ?_⟩ | walk_at "alds" | refine ⟨_, _, _, _, _, rfl, rfl, rfl, rfl, rfl, ?_⟩))
local macro_rules | `(tactic| walk_at "alF") => `(tactic| repeat (first | walk_at "al1" | with_reducible refine as_seq ?_ | with_reducible refine ae_tup ?_ | with_reducible refine ae_lst ?_ | with_reducible walk_at "alc" | refine ⟨_, rfl, ?_⟩ | walk_at "alds" | refine ⟨_, _, _, _, _, rfl, rfl, rfl, rfl, rfl, ?_⟩))
local macro_rules | `(tactic| walk_at "alo") => `(tactic| repeat (first | walk_at "al1" | with_reducible refine ae_tup ?_ | with_reducible walk_at "alc" | refine ⟨_, rfl, ?_⟩ | walk_at "alds" | refine ⟨_, _, _, _, _, rfl, rfl, rfl, rfl, rfl, ?_⟩))
local macro_rules | `(tactic| walk_at "almono") => `(tactic| first | exact mono_take | exact mono_bag | exact mono_rms | exact mono_lawWeb)
section
variable {P : Program} {w : World} {K : PySem.W.Frag} {mg : Str → Option Value} {base : Heap} {C_Room C_Web : Addr}
theorem sentD1 {M : List MO} {Φ : AV → List MO → Prop} {Ψ : Exc → List MO → Prop} {asp : ASp} {k : Nat} {kvs : KD} {xs xs' : List AV} (mono : Mono asp) (hk : M[k]? = some (dM kvs)) (hx : xs = xs'.map (renV M.length [k])) (hb : xs'.all (AV.below 1) = true)
    (h : asp xs' [dM kvs] (fun x M' => ∃ d, M' = [dM kvs] ∧ x = .d d ∧ Φ (.d d) M) (fun x M' => False)) : Sent asp xs M Φ Ψ := by
  have hl := (List.getElem?_eq_some_iff.mp hk).1
  have hg : M.getD k (.lst []) = dM kvs := by rw [List.getD, hk]; rfl
  have e : subK M [k] = [dM kvs] := by show [M.getD k (.lst [])] = _; rw [hg]
  have hz : (dM kvs).isD = true := isD_dM kvs
  refine ⟨[k], xs', by simp, by simpa using hl, by show ((M.getD k (.lst [])).isD && true) = true; rw [hg, hz]; rfl, hx, hb, ?_⟩
  rw [e]
  refine mono _ _ _ _ _ _ (fun x M' z => ?_) (fun x M' z => z.elim) h
  obtain ⟨d, e, ex, p⟩ := z
  subst e; subst ex
  refine ⟨[dM kvs], [], rfl, rfl, ?_⟩
  show Φ (.d d) (Al.putK M [k] [renO M.length [k] (dM kvs)] ++ [])
  rw [renO_isD hz, List.append_nil]
  unfold Al.putK; unfold Al.putK
  have e4 : M.set k (dM kvs) = M := by
    have := List.getElem?_eq_some_iff.mp hk
    rw [← this.2]
    exact List.set_getElem_self hl
  rw [e4]
  exact p
theorem way_self {ear : Int → List Int} {kn : Cell → Bool} {c : Cell} {ws : List Cell} (N : IsWayD ear kn c c ws) : ws = [c] := by
  have n0 := (List.getElem?_eq_some_iff.mp N.first).1
  have hb := N.beat _ _ N.last
  have hl : ws.length = 1 := by omega
  match ws, hl, N.first with
  | [a], _, h => cases h; rfl
theorem rt_pre0 {Φ : AV → List MO → Prop} {d : D} {M : List MO} (h : Φ (.d d) []) : RT 0 Φ (.d d) M := rt_preC (M := []) (r := M) (fun o ho => nomatch ho) h
theorem bag_sentL {M : List MO} {ns : List Int} {k : Int} {Φ : AV → List MO → Prop} {Ψ : Exc → List MO → Prop} (h0 : 0 ≤ k) (h5 : k < 5) (hn : ns.length ≤ 100) (q : ∀ g x, Φ (.m M.length) (M ++ [bag g x 0])) : Sent aBag [.d (.scr (ns.map D.int)), .d (.int k)] M Φ Ψ :=
  sentN (ys := [.scr (ns.map D.int), .int k]) mono_bag ⟨ns, k, rfl, rfl, h0, h5, hn, fun g x => ⟨_, rfl, rfl, q g x⟩⟩
def aLaw : ASp := fun xs M Φ _ => ∃ ns : List Int, xs = [.d (.scr (ns.map D.int))] ∧ M = [] ∧ ns.length ≤ 63 ∧ Φ (.d (.bl true)) []
theorem ok_law (DD : DefAt K mg "law" (top 35) ["_law_script"]) (T : Bt mg)
    (G__law_bag : FnAt P w K mg base CX0 1 "_law_bag" ["_law_script", "_law_at"] aBag)
    (G__law_take : FnAt P w K mg base CX0 1 "_law_take" ["_law_bag_here", "_law_many"] aTake)
    (G__law_rooms : FnAt P w K mg base CX0 3 "_law_rooms" ["_law_bag_here", "_law_most", "_law_widest"] aRms)
    (G__law_web : FnAt P w K mg base CX0 10 "_law_web" ["_law_rooms_here"] (aLawWeb C_Room C_Web))
    (G__law_pokes : FnAt P w K mg base CX0 3 "_law_pokes" ["_law_bag_here", "_law_rooms_here", "_law_times", "_law_most"] aPokes)
    (G__law_needs : FnAt P w K mg base CX0 3 "_law_needs" ["_law_rooms_here", "_law_put", "_law_cells"] aNeedsG)
    (G__law_is_way : FnAt P w K mg base CX0 3 "_law_is_way" ["_law_rooms_here", "_law_put", "_law_told", "_law_high", "_law_aim"] aIsWayL)
    (G_way : FnAtK P w K mg base (L2.CX P w) 17 "way" ["web", "cell", "goal", "pokes"] (aWay C_Room C_Web) [(3, ["pokes"], [0, 1, 2, 4]), (3, [], [0, 1, 2, 3]), (0, ["web", "goal", "cell"], [1, 3, 2, 0])])
    (G__law_long : FnAt P w K mg base CX0 20 "_law_long" ["_law_bag_here"] aLongW) :
    FnAt P w K mg base CX0 21 "law" ["_law_script"] aLaw := by
  refine fnat DD sc_law (fun xs M Φ Ψ h => ?_) (fun f cdv A outer s H E hr => ⟨_, (pss_cons (ps_for PassesOwn.never rfl (pi_range1 rfl T.range (pa_cons (pe_op (k_add K) pe_int (pe_callB (call_min2 rfl) (by rfl) T.min (by decide +kernel) (pa_cons pe_int (pa_cons (pe_callB (k_len K) (by rfl) T.len (by decide +kernel) (pa_cons (pv 0) pa_nil)) pa_nil)))) pa_nil)) (pg_name (i := 1) sc_law.nd rfl (Or.inl rfl)) (pss_cons (ps_set (i := 2) sc_law.nd rfl (Or.inr rfl) (pe_fn G__law_bag (hr.mono (by decide)) rfl pass0 (pa_cons (pv 0) (pa_cons (pv 1) pa_nil)))) (pss_cons (ps_set (i := 3) sc_law.nd rfl (Or.inr rfl) (pe_fn G__law_rooms (hr.mono (by decide)) rfl pass0 (pa_cons (pv 2) (pa_cons pe_int (pa_cons pe_int pa_nil))))) (pss_cons (ps_set (i := 4) sc_law.nd rfl (Or.inl rfl) (pe_ix (k_ix K) (pe_lst (pa_cons pe_int (pa_cons pe_int (pa_cons (pe_op op_pow pe_int pe_int) pa_nil)))) (pe_fn G__law_take (hr.mono (by decide)) rfl pass0 (pa_cons (pv 2) (pa_cons pe_int pa_nil))) (fun _ _ => rfl))) (pss_cons (ps_par (i := 14) (j := 15) rfl sc_law.nd rfl rfl (by decide) rfl rfl (pa_cons (pe_fn G__law_web (hr.mono (by decide)) rfl pass0 (pa_cons (pv 3) pa_nil)) (pa_cons (pe_tup (pa_cons (pe_fn G__law_take (hr.mono (by decide)) rfl pass0 (pa_cons (pv 2) (pa_cons (pe_callB (k_len K) (by rfl) T.len (by decide +kernel) (pa_cons (pv 3) pa_nil)) pa_nil))) (pa_cons (pe_op (k_add K) (pv 4) (pe_fn G__law_take (hr.mono (by decide)) rfl pass0 (pa_cons (pv 2) (pa_cons pe_int pa_nil)))) pa_nil))) pa_nil)) rfl) (pss_cons (ps_set (i := 5) sc_law.nd rfl (Or.inr rfl) (pe_callB (call_max2 rfl) (by rfl) T.max (by decide +kernel) (pa_cons pe_int (pa_cons (pe_op op_sub (pe_ix (k_ix K) (pv 15) pe_int (fun _ _ => rfl)) pe_int) pa_nil)))) (pss_cons (ps_set (i := 6) sc_law.nd rfl (Or.inl rfl) (pe_fn G__law_pokes (hr.mono (by decide)) rfl pass0 (pa_cons (pv 2) (pa_cons (pv 3) (pa_cons (pe_listRgB rfl rfl T.list (prg_2 rfl T.range (pv 5) (pe_op (k_add K) (pe_ix (k_ix K) (pv 15) pe_int (fun _ _ => rfl)) pe_int))) (pa_cons pe_int pa_nil)))))) (pss_cons (ps_set (i := 7) sc_law.nd rfl (Or.inl rfl) (pe_callTy (k_dictPD hr.units) (by rfl) T.dict (by decide +kernel) (pa_cons (pe_lc (own := [("_law_one", 17)]) rfl sc_law.nd (pi_range1 rfl T.range (pa_cons (pe_callB (k_len K) (by rfl) T.len (by decide +kernel) (pa_cons (pv 3) pa_nil)) pa_nil)) (blkOk_by (own := [("_law_one", 17)]) (N := ["_law_script", "_law_k", "_law_bag_here", "_law_rooms_here", "_law_lift", "_law_low", "_law_put", "_law_ends", "_law_due", "_law_goals", "_law_lent", "_law_aim", "_law_turn", "_law_bare", "_law_mine", "_law_high", "_law_told", "_law_one"]) (sc := defScope (top 35)) (by decide +kernel)) (fun _ _ _ _ _ => by exact (pg_name (i := 17) sc_law.nd rfl (Or.inl rfl))) (fun _ _ _ _ _ => by exact pts_nil) (fun _ _ _ _ _ => by exact (pe_tup (pa_cons (pe_tup (pa_cons (pv 17) (pa_cons (pv 5) pa_nil))) (pa_cons pe_int pa_nil))))) pa_nil))) (pss_cons (ps_expr (pe_bmK K PySem.F.plainAttrs_dict PySem.F.slot_dict_update PySem.F.type_dict_update (Hs.mt_updT hr.units) (pv 7) (pa_cons (pv 6) pa_nil))) (pss_cons (ps_set (i := 8) sc_law.nd rfl (Or.inl rfl) (pe_ix (k_ix K) (pe_fn G__law_needs (hr.mono (by decide)) rfl pass0 (pa_cons (pv 3) (pa_cons (pv 7) (pa_cons (pe_lst (pa_cons (pv 15) pa_nil)) pa_nil)))) pe_int (fun _ _ => rfl))) (pss_cons (ps_set (i := 9) sc_law.nd rfl (Or.inl rfl) (pe_op (k_add K) (pe_slice (k_sl K) (pv 8) po_none (po_some pe_int)) (pe_lc (own := [("_law_turn", 12)]) rfl sc_law.nd (pi_range1 rfl T.range (pa_cons pe_int pa_nil)) (blkOk_by (own := [("_law_turn", 12)]) (N := ["_law_script", "_law_k", "_law_bag_here", "_law_rooms_here", "_law_lift", "_law_low", "_law_put", "_law_ends", "_law_due", "_law_goals", "_law_lent", "_law_aim", "_law_turn", "_law_bare", "_law_mine", "_law_high", "_law_told", "_law_one"]) (sc := defScope (top 35)) (by decide +kernel)) (fun _ _ _ _ _ => by exact (pg_name (i := 12) sc_law.nd rfl (Or.inl rfl))) (fun _ _ _ _ _ => by exact pts_nil) (fun _ _ _ _ _ => by exact (pe_tup (pa_cons (pe_fn G__law_take (hr.mono (by decide)) rfl pass0 (pa_cons (pv 2) (pa_cons (pe_callB (k_len K) (by rfl) T.len (by decide +kernel) (pa_cons (pv 3) pa_nil)) pa_nil))) (pa_cons (pe_op (k_add K) (pv 5) (pe_fn G__law_take (hr.mono (by decide)) rfl pass0 (pa_cons (pv 2) (pa_cons pe_int pa_nil)))) pa_nil))))))) (pss_cons (ps_set (i := 10) sc_law.nd rfl (Or.inl rfl) (pe_lockV (pe_callTy (k_dictD hr.units) (by rfl) T.dict (by decide +kernel) (pa_cons (pv 6) pa_nil)))) (pss_cons (ps_for PassesOwn.never rfl (pi_seqK K (pv 9)) (pg_name (i := 11) sc_law.nd rfl (Or.inl rfl)) (pss_cons (ps_set (i := 16) sc_law.nd rfl (Or.inl rfl) (pe_fnP (3, ["pokes"], [0, 1, 2, 4]) G_way (by decide) (hr.mono (by decide)) rfl passF (pa_cons (pv 14) (pa_cons (pv 15) (pa_cons (pv 11) pa_nil))) (pk_cons (pv 6) pk_nil))) (pss_cons (ps_if (PW.pt (pw_or (pt_cmpR (k_ne K hr.units) (pe_cmpR op_isN (pv 16) pe_non (nomark _)) (pe_cmpR (k_notInT K hr) (pv 11) (pv 8) (by rfl)) (nomark _)) (pw_or1 (pt_cmpR (k_neDT hr.units) (pv 6) (pv 10) (nomark _))))) (pss_one (ps_ret pe_bl)) pss_nil) (pss_one (ps_if (PW.pt (pw_and (pt_cmpR op_notN (pv 16) pe_non (nomark _)) (pw_and1 (pt_not (pt_val (pe_fn G__law_is_way (hr.mono (by decide)) rfl pass0 (pa_cons (pv 3) (pa_cons (pv 6) (pa_cons (pv 16) (pa_cons (pv 15) (pa_cons (pv 11) pa_nil))))))))))) (pss_one (ps_ret pe_bl)) pss_nil))))) (pss_cons (ps_for PassesOwn.never rfl (pi_range1 rfl T.range (pa_cons pe_int pa_nil)) (pg_name (i := 12) sc_law.nd rfl (Or.inl rfl)) (pss_cons (ps_set (i := 16) sc_law.nd rfl (Or.inl rfl) (pe_fnP (3, ["pokes"], [0, 1, 2, 4]) G_way (by decide) (hr.mono (by decide)) rfl passF (pa_cons (pv 14) (pa_cons (pv 15) (pa_cons (pv 15) pa_nil))) (pk_cons (pv 6) pk_nil))) (pss_cons (ps_if (pt_cmpR (k_ne K hr.units) (pv 16) (pe_lst (pa_cons (pv 15) pa_nil)) (nomark _)) (pss_one (ps_ret pe_bl)) pss_nil) (pss_one (ps_expr (pe_bmK K PySem.F.plainAttrs_list PySem.F.slot_list_append PySem.F.type_list_append mt_append (pv 16) (pa_cons pe_non pa_nil))))))) (pss_cons (ps_if (PW.pt (pw_or (pt_cmpR (k_ne K hr.units) (pe_fnP (3, ["pokes"], [0, 1, 2, 4]) G_way (by decide) (hr.mono (by decide)) rfl passF (pa_cons (pv 14) (pa_cons (pv 15) (pa_cons (pv 15) pa_nil))) (pk_cons (pv 6) pk_nil)) (pe_lst (pa_cons (pv 15) pa_nil)) (nomark _)) (pw_or1 (pt_cmpR (k_ne K hr.units) (pe_fnP0 (0, ["web", "goal", "cell"], [1, 3, 2, 0]) G_way (by decide) (hr.mono (by decide)) rfl passF (pk_cons (pv 14) (pk_cons (pv 15) (pk_cons (pv 15) pk_nil)))) (pe_lst (pa_cons (pv 15) pa_nil)) (nomark _))))) (pss_one (ps_ret pe_bl)) pss_nil) (pss_cons (ps_set (i := 7) sc_law.nd rfl (Or.inl rfl) (pe_callTy (k_dictPD hr.units) (by rfl) T.dict (by decide +kernel) (pa_cons (pe_lc (own := [("_law_one", 17)]) rfl sc_law.nd (pi_range1 rfl T.range (pa_cons (pe_callB (k_len K) (by rfl) T.len (by decide +kernel) (pa_cons (pv 3) pa_nil)) pa_nil)) (blkOk_by (own := [("_law_one", 17)]) (N := ["_law_script", "_law_k", "_law_bag_here", "_law_rooms_here", "_law_lift", "_law_low", "_law_put", "_law_ends", "_law_due", "_law_goals", "_law_lent", "_law_aim", "_law_turn", "_law_bare", "_law_mine", "_law_high", "_law_told", "_law_one"]) (sc := defScope (top 35)) (by decide +kernel)) (fun _ _ _ _ _ => by exact (pg_name (i := 17) sc_law.nd rfl (Or.inl rfl))) (fun _ _ _ _ _ => by exact pts_nil) (fun _ _ _ _ _ => by exact (pe_tup (pa_cons (pe_tup (pa_cons (pv 17) (pa_cons (pv 5) pa_nil))) (pa_cons pe_int pa_nil))))) pa_nil))) (pss_cons (ps_set (i := 13) sc_law.nd rfl (Or.inl rfl) (pe_fnP (3, [], [0, 1, 2, 3]) G_way (by decide) (hr.mono (by decide)) rfl passF (pa_cons (pv 14) (pa_cons (pv 15) (pa_cons (pe_tup (pa_cons (pe_ix (k_ix K) (pv 15) pe_int (fun _ _ => rfl)) (pa_cons (pv 5) pa_nil))) pa_nil))) pk_nil)) (pss_one (ps_if (pt_cmpR (k_ne K hr.units) (pe_cmpR op_isN (pv 13) pe_non (nomark _)) (pe_cmpR (k_notInT K hr) (pe_tup (pa_cons (pe_ix (k_ix K) (pv 15) pe_int (fun _ _ => rfl)) (pa_cons (pv 5) pa_nil))) (pe_ix (k_ix K) (pe_fn G__law_needs (hr.mono (by decide)) rfl pass0 (pa_cons (pv 3) (pa_cons (pv 7) (pa_cons (pe_lst (pa_cons (pv 15) pa_nil)) pa_nil)))) pe_int (fun _ _ => rfl)) (by rfl)) (nomark _)) (pss_one (ps_ret pe_bl)) pss_nil))))))))))))))))))) (pss_one (ps_ret (pe_fn G__law_long (hr.mono (by decide)) rfl pass0 (pa_cons (pe_fn G__law_bag (hr.mono (by decide)) rfl pass0 (pa_cons (pv 0) (pa_cons pe_int pa_nil))) pa_nil))))), fun B xs M Φ Ψ hB h => ?_⟩)
  · obtain ⟨ns, rfl, _⟩ := h
    rfl
  · obtain ⟨ns, rfl, rfl, hn, k⟩ := h
    refine as_seq (as_for (n := 0) (fun _ σ M => M = [] ∧ ∃ a1 a2 a3 a4 a5 a6 a7 a8 a9 a10 a11 a12 a13 a14 a15 a16 a17, σ = [some (.d (.scr (ns.map D.int))), a1, a2, a3, a4, a5, a6, a7, a8, a9, a10, a11, a12, a13, a14, a15, a16, a17]) (by rintro _ _ _ ⟨rfl, _⟩; rfl) (ai_rng1 ?_))
    walk_at "al"
    refine ac_min ?_
    walk_at "al"
    rw [List.length_map]
    have hj : ∃ j : Int, 1 ≤ j ∧ j ≤ 5 ∧ (1 + if (ns.length : Int) < 4 then (ns.length : Int) else 4) = j := ⟨_, by split <;> omega, by split <;> omega, rfl⟩
    obtain ⟨j, j1, j5, ej⟩ := hj
    rw [ej]
    refine ⟨by omega, by omega, ⟨rfl, none, none, none, none, none, none, none, none, none, none, none, none, none, none, none, none, none, rfl⟩, ?_, ?_⟩
    · rintro i d σ' M' hi ⟨rfl, a1, a2, a3, a4, a5, a6, a7, a8, a9, a10, a11, a12, a13, a14, a15, a16, a17, rfl⟩
      obtain ⟨hi, rfl⟩ := rngD_get hi
      have k0 : (0 : Int) ≤ 0 + (i : Int) := by omega
      have k5 : (0 : Int) + (i : Int) < 5 := by omega
      generalize hk : (0 : Int) + (i : Int) = kk at k0 k5 ⊢
      walk_at "alo"
      refine as_seq ?_
      walk_at "alo"
      refine bag_sentL k0 k5 (by omega) fun g x => ?_
      walk_at "alo"
      refine as_seq ?_
      walk_at "alo"
      refine sent1 (xs' := [.m 0, .d (.int 6), .d (.int 2)]) mono_rms rfl rfl rfl ⟨_, _, _, 6, 2, rfl, rfl, by decide, by decide, by decide, by decide, fun rms g1 x1 c1 hR => ⟨_, _, rfl, rfl, ?_⟩⟩
      have hn1 := hR.n1
      have hnm := hR.nm
      have hh := heard_ok hR
      have hrl : (rms.map Rm.rd).length = rms.length := List.length_map _
      walk_at "alo"
      refine as_seq <| as_asgN <| ae_op <| ae_lst <| aa_cons <| ae_int <| aa_cons <| ae_int <| aa_cons <| ae_op <| ae_int <| ae_int <| ar_i ⟨by decide, by decide, by decide⟩ <| aa_nil ⟨[.int 0, .int 0, .int ((10 : Int) ^ (50 : Nat))], rfl, Nat.le_of_ble_eq_true rfl, ae_call0 (Ψ := fun _ _ => False) mono_take efits_none <| aa_cons <| ae_var rfl <| aa_cons <| ae_int <| aa_nil <| take_sent rfl (by decide) (by decide) fun r3 g3 x3 c3 r30 r31 => ?_⟩
      obtain ⟨lift, hlift, hat⟩ : ∃ lift : Int, (lift = 0 ∨ lift = 10 ^ 50) ∧ atI [Al.D.int 0, .int 0, .int (10 ^ 50)] r3 = some (.int lift) := by
        rcases show r3 = 0 ∨ r3 = 1 ∨ r3 = 2 by omega with rfl | rfl | rfl
        · exact ⟨0, .inl rfl, rfl⟩
        · exact ⟨0, .inl rfl, rfl⟩
        · exact ⟨10 ^ 50, .inr rfl, rfl⟩
      refine ur_ixL hat ?_
      refine as_seq <| as_par <| aa_cons <| ae_call0 (Ψ := fun _ _ => False) mono_lawWeb efits_none <| aa_cons <| ae_var rfl <| aa_nil <| sent0 (ys := [.lst (rms.map Rm.t)]) mono_lawWeb ⟨rms, 6, 2, rfl, rfl, hR, by decide, by decide, ⟨rfl, _, rfl, aa_cons <| ae_tupK <| aa_cons <| ae_call0 (Ψ := fun _ _ => False) mono_take efits_none <| aa_cons <| ae_var rfl <| aa_cons <| ae_cb <| aa_cons <| ae_var rfl <| aa_nil <| uc_len (.lst _) <| aa_nil ?_⟩⟩
      rw [List.length_map]
      refine take_sent rfl (by omega) (by omega) fun r g4 x4 c4 r0 r1 => aa_cons <| ae_op <| ae_var rfl <| ae_call0 (Ψ := fun _ _ => False) mono_take efits_none <| aa_cons <| ae_var rfl <| aa_cons <| ae_int <| aa_nil <| take_sent rfl (by decide) (by decide) fun t g5 x5 c5 t0 t1 => ur_addI <| aa_nil ⟨key2 (r, lift + t), rfl, Nat.le_of_ble_eq_true rfl, aa_nil ⟨_, _, rfl, ?_⟩⟩
      refine as_seq <| as_asgN <| ae_cb <| aa_cons <| ae_int <| aa_cons <| ae_op <| ae_op <| ae_var rfl <| ae_int <| ur_ixK (k := .inl (lift + t)) rfl <| ae_int <| ar_i0 <| aa_nil <| ac_max ?_
      obtain ⟨hb, low, B0, ehb, elow, l0, lh, l16, b0l, bh, hbx⟩ : ∃ hb low B0 : Int, lift + t = hb ∧ (if lift + t - 16 > 0 then lift + t - 16 else 0) = low ∧ 0 ≤ low ∧ low ≤ hb ∧ hb ≤ low + 16 ∧ B0 ≤ low ∧ hb ≤ B0 + 32 ∧ ((boxL 6 B0 32).map hash2).Nodup := by
        rcases hlift with rfl | rfl
        · exact ⟨_, _, 0, rfl, rfl, by split <;> omega, by split <;> omega, by split <;> omega, by split <;> omega, by omega, boxL_hash0⟩
        · exact ⟨_, _, 10 ^ 50 - 16, rfl, rfl, by split <;> omega, by split <;> omega, by split <;> omega, by split <;> omega, by omega, boxL_hash1⟩
      rw [elow, ehb]
      clear elow ehb hat hlift
      refine as_seq <| as_asgN <| ae_call0 (Ψ := fun _ _ => False) mono_pokes efits_none <| aa_cons <| ae_var rfl <| aa_cons <| ae_var rfl <| aa_cons <| ae_listRgB <| ae_var rfl ⟨low, rfl, ae_op <| ae_op <| ae_var rfl <| ae_int <| ur_ixK (k := .inl hb) rfl <| ae_int <| ur_addI ⟨hb + 1, rfl, by omega, aa_cons <| ae_int <| aa_nil ?_⟩⟩
      have ets : rngD low (hb + 1 - low).toNat = ((List.range (hb + 1 - low).toNat).map fun (i : Nat) => low + (i : Int)).map Al.D.int := by unfold rngD; rw [List.map_map]; rfl
      rw [ets]
      refine sent1 (xs' := [.m 0, .d (.lst (rms.map Rm.t)), .d (.lst (((List.range (hb + 1 - low).toNat).map fun (i : Nat) => low + (i : Int)).map Al.D.int)), .d (.int 8)]) mono_pokes rfl rfl rfl ⟨_, _, _, 6, 2, rms, _, 8, rfl, rfl, hR, by decide, by decide, by simp; omega, by simp; omega, by decide, fun pm g6 x6 c6 hp hpl => ⟨_, _, rfl, rfl, ?_⟩⟩
      have hkeys : ∀ c ∈ pm.map Prod.fst, c ∈ boxL 6 B0 32 := fun c hc => by
        obtain ⟨q, hq, rfl⟩ := List.mem_map.mp hc
        obtain ⟨h1, h2⟩ := hp.rm q hq
        obtain ⟨z, hz, e⟩ := List.mem_map.mp (hp.bt q hq)
        have := List.mem_range.mp hz
        exact mem_boxL ⟨h1, by omega⟩ (by omega) (by omega)
      have hfst : (pkD pm).map Prod.fst = (pm.map Prod.fst).map key2 := by unfold pkD; rw [List.map_map, List.map_map]; rfl
      -- the ends
      have hends : ∀ {m n : Nat}, (rngD m n).map (fun d => Al.D.tup [.key (key2 (toI d, low)), .int 0]) = (rngD m n).map (fun d => Al.D.tup [.key (key2 (toI d, low)), .int 0]) := rfl
      have eend : (rngD 0 rms.length).map (fun d => Al.D.tup [.key (key2 (toI d, low)), .int 0]) = (pkD (endsP rms.length low)).map fun p => Al.D.tup [.key p.1, p.2] := by
        unfold rngD pkD endsP
        rw [List.map_map, List.map_map, List.map_map]
        refine List.map_congr_left fun k _ => ?_
        show Al.D.tup [.key (key2 ((0 : Int) + (k : Int), low)), .int 0] = .tup [.key (key2 ((k : Int), low)), .int 0]
        rw [Int.zero_add]
      refine as_seq <| as_asgN <| ae_cb <| aa_cons <| ae_map (l := rngD 0 rms.length) (fun d => .tup [.key (key2 (toI d, low)), .int 0]) (by simp [MO.below, bag]) (gk_name rfl) (by rw [rngD_len, sizeLine_eq]; omega) (ai_rng1 <| aa_cons <| ae_cb <| aa_cons <| ae_var rfl <| aa_nil <| uc_len (.lst _) <| aa_nil ⟨_, rfl, by omega, by rw [List.length_map]; omega, rfl, by rw [List.length_map]; rfl, ?_⟩) fun d hd acc => ?_
      rotate_left
      · obtain ⟨k, hk, e⟩ := List.mem_map.mp hd
        subst e
        exact ag_name <| ae_tup <| aa_cons <| ae_tupK <| aa_cons <| ae_var rfl <| aa_cons <| ae_var rfl <| aa_nil ⟨key2 ((0 : Int) + (k : Int), low), rfl, Nat.le_of_ble_eq_true rfl, aa_cons <| ae_int <| aa_nil ⟨[_, _], rfl, Nat.le_of_ble_eq_true rfl, rfl, rfl⟩⟩
      rw [eend]
      refine aa_nil <| uc_dictP (.lst _) ?_
      rw [show storG ([] : KD) (pkD (endsP rms.length low)) = pkD (putsP [] (endsP rms.length low)) from storG_pk _ []]
      generalize hE : putsP [] (endsP rms.length low) = E0
      refine as_seq <| as_drop <| ae_updTF <| ae_var rfl ⟨1, _, rfl, rfl, aa_cons <| ae_var rfl <| aa_nil ⟨pkD E0, pkD pm, rfl, rfl, ?_, .inl ?_, ?_⟩⟩
      · have h1 := putsP_len (endsP rms.length low) []
        rw [hE] at h1
        have h2 : (endsP rms.length low).length = rms.length := by unfold endsP; rw [List.length_map, List.length_range]
        rw [h2, List.length_nil] at h1
        unfold pkD
        rw [List.length_map, List.length_map, sizeLine_eq]
        omega
      · intro z
        have h0 : ((0 : Int), low) ∈ E0.map Prod.fst := by
          rw [← hE, putsP_keys, endsP_mem]
          exact .inr ⟨rfl, Int.le_refl 0, by show (0 : Int) < rms.length; omega⟩
        unfold pkD at z
        rw [List.map_eq_nil_iff.mp z] at h0
        cases h0
      rw [putsG_pk]
      obtain ⟨nE1, nE2⟩ := need_ends (kn := knB pm) (knE := knB (putsP E0 pm)) (low := low) (c0 := (r, hb)) (n := rms.length) (fun k j hj => by
        have := (ears_in hh (k := k)).1 j hj
        rw [hrl] at this
        exact this) ⟨r0, r1⟩ lh (fun c => by rw [← hE]; exact ends_kn c)
      generalize putsP E0 pm = E1 at nE1 nE2
      refine as_seq <| as_asgN <| ae_op <| ae_call0 (Ψ := fun _ _ => False) mono_needsG efits_none <| aa_cons <| ae_var rfl <| aa_cons <| ae_var rfl <| aa_cons <| ae_lst <| aa_cons <| ae_var rfl <| aa_nil ⟨[pk (r, hb)], rfl, Nat.le_of_ble_eq_true rfl, aa_nil ?_⟩
      refine sentD1 (k := 1) (kvs := pkD E1) (xs' := [.d (.lst (rms.map Rm.t)), .m 0, .d (.lst [pk (r, hb)])]) mono_needsG rfl rfl rfl ⟨rms, 6, 2, E1, [(r, hb)], boxL 6 B0 32, rfl, rfl, hR, by decide, by rw [boxL_len]; decide, by simp, fun c hc => ?_, fun due run d1 d2 d3 _ _ _ => ⟨_, rfl, rfl, ae_int <| ur_ixT (d := .lst (due.map pk)) rfl ?_⟩⟩
      · obtain ⟨q1, q2, q3⟩ := nE1 c hc
        have q3 : c.2 ≤ hb := q3
        exact ⟨mem_boxL ⟨q1.1, by omega⟩ (by omega) (by omega), q1, by omega⟩
      have hdl : due.length ≤ 198 := by
        have := nodup_le d2 (ns := boxL 6 B0 32) fun c hc => by
          obtain ⟨q1, q2, q3⟩ := nE1 c ((d3 c).mp hc)
          have q3 : c.2 ≤ hb := q3
          exact mem_boxL ⟨q1.1, by omega⟩ (by omega) (by omega)
        rw [boxL_len] at this
        exact this
      have hdue : ∀ c : Cell, low ≤ c.2 → (c ∈ due ↔ NeedC (ears (rms.map Rm.rd)) (knB pm) [(r, hb)] c) := fun c hc => (d3 c).trans (nE2 c hc)
      have hdlow : ∀ c ∈ due, low ≤ c.2 ∧ c.2 ≤ hb := fun c hc => by
        obtain ⟨q1, q2, q3⟩ := nE1 c ((d3 c).mp hc)
        exact ⟨q2, q3⟩
      have hB2 : ∀ {g x c : Int}, ∀ o ∈ [bag g x c, dM (pkD E1)], o.below 2 = true := by simp [MO.below, bag, dM, AV.below]
      refine as_seq <| as_asgN <| ae_op <| ae_sliceL <| ae_var rfl ⟨due.map pk, rfl, ao_none <| ao_some <| ae_int ⟨_, rfl, ae_lc (n := 2) (fun i acc M' => ∃ (g x c : Int) (gs : List Cell), M' = [bag g x c, dM (pkD E1)] ∧ acc = gs.map pk ∧ gs.length = i ∧ ∀ c ∈ gs, low ≤ c.2 ∧ c.2 ≤ low + 20) (fun i acc M' ⟨g, x, c, gs, e, _⟩ => by rw [e]; exact ⟨rfl, List.all_eq_true.mpr hB2⟩) (gk_name rfl)
        (ai_rng1 <| aa_cons <| ae_int <| aa_nil ⟨6, rfl, by decide, by decide, ⟨_, _, _, [], rfl, rfl, rfl, by simp⟩, fun i d acc M' hd hi => ?_, fun acc M' hi => ?_⟩)⟩⟩
      · obtain ⟨g, x, c, gs, rfl, rfl, hl, hg⟩ := hi
        obtain ⟨hlt, rfl⟩ := rngD_get hd
        refine ag_name <| at_yes ⟨fun _ => ae_tupK <| aa_cons <| ae_call0 (Ψ := fun _ _ => False) mono_take efits_none <| aa_cons <| ae_var rfl <| aa_cons <| ae_cb <| aa_cons <| ae_var rfl <| aa_nil <| uc_len (.lst _) <| aa_nil ?_, (fun z => nomatch z)⟩
        rw [List.length_map]
        refine take_sent rfl (by omega) (by omega) fun r' g' x' c' r0' r1' => aa_cons <| ae_op <| ae_var rfl <| ae_call0 (Ψ := fun _ _ => False) mono_take efits_none <| aa_cons <| ae_var rfl <| aa_cons <| ae_int <| aa_nil <| take_sent rfl (by decide) (by decide) fun t' g2' x2' c2' t0' t1' => ur_addI <| aa_nil ⟨key2 (r', low + t'), rfl, Nat.le_of_ble_eq_true rfl, _, [bag g2' x2' c2', dM (pkD E1)], rfl, rfl, by rw [List.length_map, sizeLine_eq]; omega, g2', x2', c2', gs ++ [(r', low + t')], rfl, by rw [List.map_append]; rfl, by rw [List.length_append, hl]; rfl, fun c hc => ?_⟩
        rcases List.mem_append.mp hc with h | h
        · exact hg c h
        · rw [List.mem_singleton.mp h]
          exact ⟨by show low ≤ low + t'; omega, by show low + t' ≤ low + 20; omega⟩
      obtain ⟨g8, x8, c8, gs, rfl, rfl, hgl, hgs⟩ := hi
      rw [rngD_len] at hgl
      rw [show cutL (due.map pk) none (some (20 : Int)) = (due.take 20).map pk from by rw [show (20 : Int) = ((20 : Nat) : Int) from rfl, cutL_lo, List.map_take]]
      refine ur_addL (.lst _) (.lst _) (by rw [List.length_map, List.length_map, List.length_take, sizeLine_eq]; omega) ?_
      rw [← List.map_append]
      have hgoal : ∀ c ∈ due.take 20 ++ gs, low ≤ c.2 ∧ c.2 ≤ low + 20 := fun c hc => by
        rcases List.mem_append.mp hc with h | h
        · obtain ⟨q1, q2⟩ := hdlow c (List.mem_of_mem_take h)
          exact ⟨q1, by omega⟩
        · exact hgs c h
      generalize due.take 20 ++ gs = goals at hgoal
      refine as_seq <| as_asgN <| ae_lockV <| ae_cb <| aa_cons <| ae_var rfl <| aa_nil <| uc_dictT hfst (hashes_apartL hbx hp.nd hkeys) (.d _) ⟨[bag g8 x8 c8, dM (pkD E1)], pkD pm, rfl, rfl, Nat.le_refl _, hB2, ?_⟩
      -- each goal
      refine as_seq (as_for (n := 2) (fun _ σ M => M = [bag g8 x8 c8, dM (pkD E1)] ∧ ∃ b11 b12 b13 b16 b17, σ = [some (.d (.scr (ns.map D.int))), some (.d (.int kk)), some (.m 0), some (.d (.lst (rms.map Rm.t))), some (.d (.int lift)), some (.d (.int low)), some (.d (dD (pkD pm))), some (.m 1), some (.d (.lst (due.map pk))), some (.d (.lst (goals.map pk))), some (.d (dD (pkD pm))), b11, b12, b13, some (.d (webV C_Room C_Web (rms.map Rm.rd))), some (.d (pk (r, hb))), b16, b17]) (by rintro _ _ _ ⟨rfl, _⟩; rfl) (ai_seqL <| ae_var rfl ⟨_, rfl, ⟨rfl, _, _, _, _, _, rfl⟩, ?_, ?_⟩))
      · rintro i2 d σ' M' hd ⟨rfl, b11, b12, b13, b16, b17, rfl⟩
        rw [List.getElem?_map] at hd
        obtain ⟨gl, hgl2, rfl⟩ := Option.map_eq_some_iff.mp hd
        obtain ⟨q1, q2⟩ := hgoal gl (List.mem_of_getElem? hgl2)
        refine ag_name <| as_seq <| as_asgN <| ae_froz (n := 2) (Nat.le_refl _) <| ae_callD (Ψ := fun _ _ => False) mono_way efits_none <| aa_cons <| ae_var rfl <| aa_cons <| ae_var rfl <| aa_cons <| ae_var rfl <| aa_nil <| aa_cons <| ae_var rfl <| aa_nil ⟨rfl, rfl, ?_⟩
        refine way_sent (pm := pm) (c := (r, hb)) (goal := gl) hR (by decide) (.frz pm) ⟨r0, r1⟩ (by show hb - gl.2 ≤ 100000; omega) (fun ws hw hwl hN hr => ?_) fun z => ?_
        · refine ⟨.d (.lst (ws.map pk)), .lst (Nat.le_refl _) rfl, hB2, ?_⟩
          refine as_seq <| as_if <| at_or <| at_test <| ae_op <| ae_op <| ae_var rfl <| ae_non <| ar_isN <| ae_op <| ae_var rfl <| ae_var rfl <| ur_notInP (c := gl) (.d _) <| ur_neB ⟨_, rfl, fun z => ?_, fun _ => ?_⟩
          · rw [decide_eq_true ((hdue gl q1).mpr hN)] at z
            cases z
          refine at_test <| ae_op <| ae_var rfl <| ae_var rfl <| ar_neDT (kvs := pm.map fun p => (key2 p.1, p.2)) (by rw [List.map_map]; exact .d _) (by rw [List.map_map]; exact .d _) ⟨_, rfl, (fun z => nomatch z), fun _ => as_next ?_⟩
          refine as_if <| at_and <| at_test <| ae_op <| ae_var rfl <| ae_non <| ar_notN ⟨_, rfl, fun _ => ?_, fun z => nomatch z⟩
          refine at_not <| at_test <| ae_call0 (Ψ := fun _ _ => False) mono_isWayL efits_none <| aa_cons <| ae_var rfl <| aa_cons <| ae_var rfl <| aa_cons <| ae_var rfl <| aa_cons <| ae_var rfl <| aa_cons <| ae_var rfl <| aa_nil <| sent0 (ys := [.lst (rms.map Rm.t), dD (pkD pm), .lst (ws.map pk), pk (r, hb), pk gl]) mono_isWayL ⟨rms, pm, ws, _, _, rfl, rfl, fun _ _ _ => trivial, hw, hwl, hr, rfl, _, rfl, ⟨_, rfl, (fun z => nomatch z), fun _ => as_next ?_⟩⟩
          exact ⟨hB2, rfl, _, _, _, _, _, rfl⟩
        · refine ⟨.d .non, .dat, hB2, ?_⟩
          refine as_seq <| as_if <| at_or <| at_test <| ae_op <| ae_op <| ae_var rfl <| ae_non <| ar_isN <| ae_op <| ae_var rfl <| ae_var rfl <| ur_notInP (c := gl) (.d _) <| ur_neB ⟨_, rfl, fun z2 => ?_, fun _ => ?_⟩
          · rw [decide_eq_false (fun z3 => z ((hdue gl q1).mp z3))] at z2
            exact absurd z2 (by decide)
          refine at_test <| ae_op <| ae_var rfl <| ae_var rfl <| ar_neDT (kvs := pm.map fun p => (key2 p.1, p.2)) (by rw [List.map_map]; exact .d _) (by rw [List.map_map]; exact .d _) ⟨_, rfl, (fun z => nomatch z), fun _ => as_next ?_⟩
          refine as_if <| at_and <| at_test <| ae_op <| ae_var rfl <| ae_non <| ar_notN ⟨_, rfl, (fun z => nomatch z), fun _ => ⟨(fun z => nomatch z), fun _ => as_next ?_⟩⟩
          exact ⟨hB2, rfl, _, _, _, _, _, rfl⟩
      rintro σ' M' ⟨rfl, b11, b12, b13, b16, b17, rfl⟩
      -- told anew behind a change
      have self : ∀ {pm2 : Pm} {ws : List Cell}, IsWayD (ears (rms.map Rm.rd)) (knB pm2) (r, hb) (r, hb) ws → ws = [(r, hb)] := fun h => way_self h
      have ndself : ∀ {pm2 : Pm}, NeedC (ears (rms.map Rm.rd)) (knB pm2) [(r, hb)] (r, hb) := .base List.mem_cons_self
      refine as_seq (as_for (n := 2) (fun _ σ M => M = [bag g8 x8 c8, dM (pkD E1)] ∧ ∃ b11 b12 b13 b16 b17, σ = [some (.d (.scr (ns.map D.int))), some (.d (.int kk)), some (.m 0), some (.d (.lst (rms.map Rm.t))), some (.d (.int lift)), some (.d (.int low)), some (.d (dD (pkD pm))), some (.m 1), some (.d (.lst (due.map pk))), some (.d (.lst (goals.map pk))), some (.d (dD (pkD pm))), b11, b12, b13, some (.d (webV C_Room C_Web (rms.map Rm.rd))), some (.d (pk (r, hb))), b16, b17]) (by rintro _ _ _ ⟨rfl, _⟩; rfl) (ai_rng1 <| aa_cons <| ae_int <| aa_nil ⟨2, rfl, by decide, by decide, ⟨rfl, _, _, _, _, _, rfl⟩, ?_, ?_⟩))
      · rintro i2 d σ' M' hd ⟨rfl, b11, b12, b13, b16, b17, rfl⟩
        refine ag_name <| as_seq <| as_asgN <| ae_callD (Ψ := fun _ _ => False) mono_way efits_none <| aa_cons <| ae_var rfl <| aa_cons <| ae_var rfl <| aa_cons <| ae_var rfl <| aa_nil <| aa_cons <| ae_var rfl <| aa_nil ⟨rfl, rfl, ?_⟩
        refine way_sent (pm := pm) (c := (r, hb)) (goal := (r, hb)) hR (by decide) (.frz pm) ⟨r0, r1⟩ (by show hb - hb ≤ 100000; omega) (fun ws hw hwl hN hr => ?_) fun z => absurd ndself z
        obtain rfl := self hw
        refine as_seq <| as_if <| at_test <| ae_op <| ae_var rfl <| ae_lst <| aa_cons <| ae_var rfl <| aa_nil ⟨[pk (r, hb)], rfl, Nat.le_of_ble_eq_true rfl, ur_neLP (as := [(r, hb)]) (bs := [(r, hb)]) (.m rfl) (.d [(r, hb)]) ⟨_, rfl, fun z => (by simp at z), fun _ => as_next ?_⟩⟩
        refine as_drop <| ae_append <| ae_var rfl ⟨2, _, rfl, rfl, aa_cons <| ae_non <| aa_nil ⟨_, _, rfl, rfl, by rw [List.length_map, sizeLine_eq]; exact Nat.le_of_ble_eq_true rfl, ?_⟩⟩
        exact ⟨hB2, rfl, _, _, _, _, _, rfl⟩
      rintro σ' M' ⟨rfl, b11, b12, b13, b16, b17, rfl⟩
      refine as_seq <| as_if <| at_or <| at_test <| ae_op <| ae_callD (Ψ := fun _ _ => False) mono_way efits_none <| aa_cons <| ae_var rfl <| aa_cons <| ae_var rfl <| aa_cons <| ae_var rfl <| aa_nil <| aa_cons <| ae_var rfl <| aa_nil ⟨rfl, rfl, ?_⟩
      refine way_sent (pm := pm) (c := (r, hb)) (goal := (r, hb)) hR (by decide) (.frz pm) ⟨r0, r1⟩ (by show hb - hb ≤ 100000; omega) (fun ws hw hwl hN hr => ?_) fun z => absurd ndself z
      obtain rfl := self hw
      clear hw hwl hN hr
      refine ae_lst <| aa_cons <| ae_var rfl <| aa_nil ⟨[pk (r, hb)], rfl, Nat.le_of_ble_eq_true rfl, ur_neLP (as := [(r, hb)]) (bs := [(r, hb)]) (.m rfl) (.d [(r, hb)]) ⟨_, rfl, fun z => (by simp at z), fun _ => ?_⟩⟩
      refine at_test <| ae_op <| ae_callD (Ψ := fun _ _ => False) mono_way efits_none <| aa_nil <| aa_cons <| ae_var rfl <| aa_cons <| ae_var rfl <| aa_cons <| ae_var rfl <| aa_nil ⟨rfl, rfl, ?_⟩
      refine way_sent (pm := []) (c := (r, hb)) (goal := (r, hb)) hR (by decide) .non ⟨r0, r1⟩ (by show hb - hb ≤ 100000; omega) (fun ws hw hwl hN hr => ?_) fun z => absurd ndself z
      obtain rfl := self hw
      clear hw hwl hN hr
      refine ae_lst <| aa_cons <| ae_var rfl <| aa_nil ⟨[pk (r, hb)], rfl, Nat.le_of_ble_eq_true rfl, ur_neLP (as := [(r, hb)]) (bs := [(r, hb)]) (.m rfl) (.d [(r, hb)]) ⟨_, rfl, fun z => (by simp at z), fun _ => as_next ?_⟩⟩
      -- the ends alone
      refine as_seq <| as_asgN <| ae_cb <| aa_cons <| ae_map (l := rngD 0 rms.length) (fun d => .tup [.key (key2 (toI d, low)), .int 0]) (by simp [MO.below, bag, dM, AV.below]) (gk_name rfl) (by rw [rngD_len, sizeLine_eq]; omega) (ai_rng1 <| aa_cons <| ae_cb <| aa_cons <| ae_var rfl <| aa_nil <| uc_len (.lst _) <| aa_nil ⟨_, rfl, by omega, by rw [List.length_map]; omega, rfl, by rw [List.length_map]; rfl, ?_⟩) fun d hd acc => ?_
      rotate_left
      · obtain ⟨k, hk, e⟩ := List.mem_map.mp hd
        subst e
        exact ag_name <| ae_tup <| aa_cons <| ae_tupK <| aa_cons <| ae_var rfl <| aa_cons <| ae_var rfl <| aa_nil ⟨key2 ((0 : Int) + (k : Int), low), rfl, Nat.le_of_ble_eq_true rfl, aa_cons <| ae_int <| aa_nil ⟨[_, _], rfl, Nat.le_of_ble_eq_true rfl, rfl, rfl⟩⟩
      rw [eend]
      refine aa_nil <| uc_dictP (.lst _) ?_
      rw [show storG ([] : KD) (pkD (endsP rms.length low)) = pkD (putsP [] (endsP rms.length low)) from storG_pk _ [], hE]
      obtain ⟨mE1, mE2⟩ := need_ends (kn := knB []) (knE := knB E0) (low := low) (c0 := (r, hb)) (n := rms.length) (fun k j hj => by
        have := (ears_in hh (k := k)).1 j hj
        rw [hrl] at this
        exact this) ⟨r0, r1⟩ lh (fun c => by rw [← hE]; exact ends_kn (pm := []) c)
      have hbx0 : ∀ c, NeedC (ears (rms.map Rm.rd)) (knB E0) [(r, hb)] c → c ∈ boxL 6 B0 32 ∧ (0 ≤ c.1 ∧ c.1 < rms.length) ∧ 0 ≤ c.2 := fun c hc => by
        obtain ⟨q1, q2, q3⟩ := mE1 c hc
        have q3 : c.2 ≤ hb := q3
        exact ⟨mem_boxL ⟨q1.1, by omega⟩ (by omega) (by omega), q1, by omega⟩
      refine as_seq <| as_asgN <| ae_froz (n := 5) (Nat.le_refl _) <| ae_callD (Ψ := fun _ _ => False) mono_way efits_none <| aa_cons <| ae_var rfl <| aa_cons <| ae_var rfl <| aa_cons <| ae_tupK <| aa_cons <| ae_op <| ae_var rfl <| ae_int <| ur_ixK (k := .inl r) rfl <| aa_cons <| ae_var rfl <| aa_nil ⟨key2 (r, low), rfl, Nat.le_of_ble_eq_true rfl, aa_nil <| aa_nil ⟨rfl, rfl, ?_⟩⟩
      refine way_sent (pm := []) (c := (r, hb)) (goal := (r, low)) hR (by decide) .non ⟨r0, r1⟩ (by show hb - low ≤ 100000; omega) (fun ws hw hwl hN hr => ?_) fun z => ?_
      · refine ⟨.d (.lst (ws.map pk)), .lst (Nat.le_refl _) rfl, by simp [MO.below, bag, dM, AV.below], ?_⟩
        refine as_if <| at_test <| ae_op <| ae_op <| ae_var rfl <| ae_non <| ar_isN <| ae_op <| ae_tupK <| aa_cons <| ae_op <| ae_var rfl <| ae_int <| ur_ixK (k := .inl r) rfl <| aa_cons <| ae_var rfl <| aa_nil ⟨key2 (r, low), rfl, Nat.le_of_ble_eq_true rfl, ae_op <| ae_call0 (Ψ := fun _ _ => False) mono_needsG efits_none <| aa_cons <| ae_var rfl <| aa_cons <| ae_var rfl <| aa_cons <| ae_lst <| aa_cons <| ae_var rfl <| aa_nil ⟨[pk (r, hb)], rfl, Nat.le_of_ble_eq_true rfl, aa_nil ?_⟩⟩
        refine sentD1 (k := 4) (kvs := pkD E0) (xs' := [.d (.lst (rms.map Rm.t)), .m 0, .d (.lst [pk (r, hb)])]) mono_needsG rfl rfl rfl ⟨rms, 6, 2, E0, [(r, hb)], boxL 6 B0 32, rfl, rfl, hR, by decide, by rw [boxL_len]; decide, by simp, hbx0, fun due0 run0 o1 o2 o3 _ _ _ => ⟨_, rfl, rfl, ae_int <| ur_ixT (d := .lst (due0.map pk)) rfl <| ur_notInP (c := (r, low)) (.d _) <| ur_neB ⟨_, rfl, fun zz => ?_, fun _ => as_next ?_⟩⟩⟩
        · rw [decide_eq_true ((o3 (r, low)).mpr ((mE2 (r, low) (Int.le_refl _)).mpr hN))] at zz
          cases zz
        exact ⟨by simp, rfl, _, _, _, _, _, _, _, _, _, _, _, _, _, _, _, _, _, rfl⟩
      · refine ⟨.d .non, .dat, by simp [MO.below, bag, dM, AV.below], ?_⟩
        refine as_if <| at_test <| ae_op <| ae_op <| ae_var rfl <| ae_non <| ar_isN <| ae_op <| ae_tupK <| aa_cons <| ae_op <| ae_var rfl <| ae_int <| ur_ixK (k := .inl r) rfl <| aa_cons <| ae_var rfl <| aa_nil ⟨key2 (r, low), rfl, Nat.le_of_ble_eq_true rfl, ae_op <| ae_call0 (Ψ := fun _ _ => False) mono_needsG efits_none <| aa_cons <| ae_var rfl <| aa_cons <| ae_var rfl <| aa_cons <| ae_lst <| aa_cons <| ae_var rfl <| aa_nil ⟨[pk (r, hb)], rfl, Nat.le_of_ble_eq_true rfl, aa_nil ?_⟩⟩
        refine sentD1 (k := 4) (kvs := pkD E0) (xs' := [.d (.lst (rms.map Rm.t)), .m 0, .d (.lst [pk (r, hb)])]) mono_needsG rfl rfl rfl ⟨rms, 6, 2, E0, [(r, hb)], boxL 6 B0 32, rfl, rfl, hR, by decide, by rw [boxL_len]; decide, by simp, hbx0, fun due0 run0 o1 o2 o3 _ _ _ => ⟨_, rfl, rfl, ae_int <| ur_ixT (d := .lst (due0.map pk)) rfl <| ur_notInP (c := (r, low)) (.d _) <| ur_neB ⟨_, rfl, fun zz => ?_, fun _ => as_next ?_⟩⟩⟩
        · rw [decide_eq_false (fun z3 => z ((mE2 (r, low) (Int.le_refl _)).mp ((o3 (r, low)).mp z3)))] at zz
          cases zz
        exact ⟨by simp, rfl, _, _, _, _, _, _, _, _, _, _, _, _, _, _, _, _, _, rfl⟩
    · rintro σ' M' ⟨rfl, a1, a2, a3, a4, a5, a6, a7, a8, a9, a10, a11, a12, a13, a14, a15, a16, a17, rfl⟩
      refine as_ret <| ae_call0 (Ψ := fun _ _ => False) mono_longW efits_none <| aa_cons <| ae_call0 (Ψ := fun _ _ => False) mono_bag efits_none <| aa_cons <| ae_var rfl <| aa_cons <| ae_int <| aa_nil <| bag_sentL (by decide) (by decide) (by omega) fun g x => aa_nil ?_
      exact sent1 (xs' := [.m 0]) mono_longW rfl rfl rfl ⟨_, _, _, rfl, rfl, fun g' x' c' => ⟨_, _, rfl, rfl, rt_pre0 k⟩⟩
end
end Wd
namespace Hq
open PySem PySem.Spec PyProof.Rows L2 Al
section
variable {K : Frag}
theorem gexc_mk {C : Addr} {bm : List Value} {B newId initId : String} (FB : Gx.BaseX B newId initId bm) (q : PySem.W.excInitIn K C bm newId = true) (q2 : PySem.W.excOver K C bm = true) (hd : PySem.W.hasDictIn K C = true)
    (sa : PySem.W.findIn K (.ref C) "__setattr__" = some (some (.builtin "object.__setattr__"))) (ex : PySem.W.subIn K (.ref C) (.type "BaseException") = some true) (ty : PySem.W.typeIn K (.ref C) = some (.type "type")) (kc : PySem.W.keepIn K (.ref C) = true) : Gx.GexC K C :=
  ⟨⟨B, newId, initId, bm, FB, q, q2⟩, hd, sa, ex, ty, kc⟩
end
theorem tabs_ok {K : Frag} {h : Heap} {tf : List (Dfn × Str)} (KX : K.In h) (hd : ∀ p ∈ tf.map (·.1), PySem.W.codeHdIn K (tabC K p) (tabP K p) = true) (out : ∀ p ∈ tf.map (·.1), K.lookup (tabP K p) = none) (em : ∀ p ∈ tf.map (·.1), h.get? (tabP K p) = some { cls := .none, data := .fields #[] }) :
    ∀ p ∈ tabsL K tf, h.get? p.2.1 = some { cls := .none, data := .fields #[] } ∧ K.lookup p.2.1 = none ∧ PySem.W.CodeHd h p.1 p.2.1 := fun p hp => by
  obtain ⟨z, hz, rfl⟩ := List.mem_map.mp hp
  have hz2 : z.1 ∈ tf.map (·.1) := List.mem_map.mpr ⟨z, hz, rfl⟩
  exact ⟨em _ hz2, out _ hz2, PySem.W.codeHd_of_K KX (hd _ hz2)⟩
theorem tabs_one {l : List (Addr × Addr × Str)} (nd : (l.map (·.2.1)).Nodup) {e p : Addr × Addr × Str} (he : e ∈ l) (hp : p ∈ l) (h : p.2.1 = e.2.1) : p.2.2 = e.2.2 := by
  induction l with
  | nil => cases he
  | cons x r ih =>
    rw [List.map_cons, List.nodup_cons] at nd
    rcases List.mem_cons.mp he with e1 | e1
    · rcases List.mem_cons.mp hp with p1 | p1
      · rw [e1, p1]
      · refine absurd ?_ nd.1
        rw [← e1, ← h]
        exact List.mem_map.mpr ⟨p, p1, rfl⟩
    · rcases List.mem_cons.mp hp with p1 | p1
      · refine absurd ?_ nd.1
        rw [← p1, h]
        exact List.mem_map.mpr ⟨e, e1, rfl⟩
      · exact ih nd.2 e1 p1
theorem walk_ofH {l : PySem.W.OpenLaw} {k : Nat} {q : Program} {loose : List Str} {XP : (Str → Option Value) → Heap → Prop} {YP : World → Heap → Prop} {d : DefRec} {x : Str}
    (hn : l.most = some 63) (hdf : d.params.defaults = []) (hr : Room k callerA)
    (F : ∀ (w : World) (mg : Str → Option Value) (fa : Addr) (h : Heap), YP w h → h.Ns mainGlobals mg → mg d.name = some (.ref fa) →
      ∃ (TL : TabList) (K : Frag), K.In h ∧ (∀ p ∈ TL.l, h.get? p.2.1 = some { cls := .none, data := .fields #[] } ∧ K.lookup p.2.1 = none ∧ PySem.W.CodeHd h p.1 p.2.1) ∧
        ∀ base : Heap, K.In base → base.Ns mainGlobals mg → (∀ p ∈ TL.l, LamX.TabB base mg p.1 p.2.1) → FnAtG l.prog w K mg base CX0 k d.name [x] Fx.aLawS) :
    PySem.W.WalkO q loose XP YP l.row.toRowW d [] (fun f vs => PySem.call f vs) := by
  refine Att.attach_call hn hdf fun w s₀ s₁ mg mb fa o pm cd doc a vs ns G Y ho hd hcd hmg hobj hints hlen hg => ?_
  obtain ⟨TL, K, KX, hTT, F⟩ := F w mg fa _ Y G.T.g hmg
  have mem : ∀ p ∈ (TL.l.map fun p : Addr × Addr × Str => (p.1, p.2.1)), ∃ q ∈ TL.l, p = (q.1, q.2.1) := fun p hp => by
    obtain ⟨q, hq, e⟩ := List.mem_map.mp hp
    exact ⟨q, hq, e.symm⟩
  refine Fx.law_callT (cs := TL.l.map fun p : Addr × Addr × Str => (p.1, p.2.1)) (CX := CX0) (x := x) KX G.T.g G.T.b G.T.builtins G.T.nolimit hg (fun p hp => ?_) (fun p hp => ?_) (fun p hp => ?_) G.T.bmain hobj hints (Nat.le_trans hlen (by decide)) hr (sp := conc K Fx.aLawS) (fun base hb hbg hTB => ?_) (fun H hH hS => ?_) fun H e s' z => z
  · obtain ⟨q, hq, rfl⟩ := mem p hp; exact (hTT q hq).1
  · obtain ⟨q, hq, rfl⟩ := mem p hp; exact (hTT q hq).2.1
  · obtain ⟨q, hq, rfl⟩ := mem p hp; exact (hTT q hq).2.2
  · obtain ⟨f, fd, FF, hm, _, hB⟩ := (F base hb hbg fun p hp => hTB _ (List.mem_map.mpr ⟨p, hp, rfl⟩)).ex
    have e := hmg.symm.trans hm
    cases e
    exact ⟨fd, FF, hB⟩
  · have hS' : SqL K (Fx.noTab H) a (ns.map V.int) := by
      rcases hS with (h | ⟨o, h⟩) | h
      · exact .inl (.inl (Fx.noTab_of h fun _ z => nomatch z))
      · exact .inl (.inr ⟨o, Fx.noTab_of h fun _ z => nomatch z⟩)
      · exact .inr h
    have hH' : ∀ p ∈ TL.l, H p.2.1 = some (.tbl #[]) := fun p hp => hH (p.1, p.2.1) (List.mem_map.mpr ⟨p, hp, rfl⟩)
    refine ⟨Fx.noTab H, [], [], [.d (.scr (ns.map D.int))], ⟨Fx.noTab_sub, by simp, rfl, by simp, by simp, fun p hp => .nil (hH' p hp), fun p hp => by unfold Fx.noTab; rw [hH' p hp]⟩, ras_cons (x := .d (.scr (ns.map D.int))) ⟨a, _, rfl, hS', RDs.of_ints ns⟩ ras_nil, ns, rfl, rfl, hlen, fun W' μ H' v _ r => r⟩
end Hq
namespace Wd
open PySem PyProof.Rows L2 Al Gx
variable [Al.TabList]
theorem bf_is_whole : Fx.BindF "is_whole" "is_whole" (top 4) ["thing"] := fun _ _ _ _ _ _ us hl => match us, hl with | [_], _ => rfl
theorem bf_is_from : Fx.BindF "is_from" "is_from" (top 5) ["thing", "least", "most"] := fun _ _ _ _ _ _ us hl => match us, hl with | [_, _, _], _ => rfl
theorem bf_is_size : Fx.BindF "is_size" "is_size" (top 12) ["thing"] := fun _ _ _ _ _ _ us hl => match us, hl with | [_], _ => rfl
theorem bf_are_hears : Fx.BindF "are_hears" "are_hears" (top 13) ["thing", "many"] := fun _ _ _ _ _ _ us hl => match us, hl with | [_, _], _ => rfl
theorem bf_rows_heard : Fx.BindF "rows_heard" "rows_heard" (top 14) ["rooms", "hears"] := fun _ _ _ _ _ _ us hl => match us, hl with | [_, _], _ => rfl
theorem bf_is_rule : Fx.BindF "is_rule" "is_rule" (top 15) ["rooms", "at"] := fun _ _ _ _ _ _ us hl => match us, hl with | [_, _], _ => rfl
theorem bf_fault_of : Fx.BindF "fault_of" "fault_of" (top 16) ["rooms", "at"] := fun _ _ _ _ _ _ us hl => match us, hl with | [_, _], _ => rfl
theorem bf_look_rooms : Fx.BindF "look_rooms" "look_rooms" (top 17) ["rooms"] := fun _ _ _ _ _ _ us hl => match us, hl with | [_], _ => rfl
theorem bf_Web___init__ : Fx.BindF "__init__" "Web.__init__" (inClass (top 18) 0) ["self", "rooms"] := fun _ _ _ _ _ _ us hl => match us, hl with | [_, _], _ => rfl
theorem bf_Web_rooms : Fx.BindF "rooms" "Web.rooms" (inClass (top 18) 1) ["self"] := fun _ _ _ _ _ _ us hl => match us, hl with | [_], _ => rfl
theorem bf_is_known : Fx.BindF "is_known" "is_known" (top 20) ["cell", "pokes"] := fun _ _ _ _ _ _ us hl => match us, hl with | [_, _], _ => rfl
theorem bf_heard_cells : Fx.BindF "heard_cells" "heard_cells" (top 21) ["web", "cell"] := fun _ _ _ _ _ _ us hl => match us, hl with | [_, _], _ => rfl
theorem bf_way_by : Fx.BindF "way_by" "way_by" (top 22) ["web", "cell", "goal", "known"] := fun _ _ _ _ _ _ us hl => match us, hl with | [_, _, _, _], _ => rfl
theorem bk_way_0 : Fy.BindKD "way" (top 23) ["web", "cell", "goal", "pokes"] (3, ["pokes"], [0, 1, 2, 4]) := fun _ _ _ _ _ _ us ws h1 h2 => match us, ws, h1, h2 with | [_, _, _], [_], _, _ => rfl
theorem bk_way_1 : Fy.BindK0 "way" "pokes" (top 23) ["web", "cell", "goal", "pokes"] (3, [], [0, 1, 2, 3]) := ⟨rfl, fun _ _ _ _ _ _ us h1 => match us, h1 with | [_, _, _], _ => ⟨_, _, _, _, _, _, rfl, rfl, rfl⟩⟩
theorem bk_way_2 : Fy.BindK1 "way" "pokes" (top 23) ["web", "cell", "goal", "pokes"] (0, ["web", "goal", "cell"], [1, 3, 2, 0]) := fun _ _ _ _ _ _ us ws h1 h2 => match us, ws, h1, h2 with | [], [_, _, _], _, _ => ⟨_, _, _, _, _, _, rfl, rfl, rfl⟩
theorem it_NoWeb : Gx.IniT (inClass (top 2) 0) "NoWeb.__init__" ["at", "what"] := ⟨rfl, rfl, rfl, fun x hx => by simp only [List.mem_cons, List.not_mem_nil, or_false] at hx; rcases hx with rfl | rfl | rfl <;> decide, fun L a cd x hx => by simp only [List.mem_cons, List.not_mem_nil, or_false] at hx; rcases hx with rfl | rfl | rfl <;> rfl, fun us h => match us, h with | [_, _, _], _ => rfl, fun L a cd us h i x u hx hu => match us, h with | [_, _, _], _ => match i, hx, hu with
  | 0, hx, hu => by cases Option.some.inj hx; cases Option.some.inj hu; rfl
  | 1, hx, hu => by cases Option.some.inj hx; cases Option.some.inj hu; rfl
  | 2, hx, hu => by cases Option.some.inj hx; cases Option.some.inj hu; rfl
  | n + 3, hx, hu => by simp at hx⟩
theorem bi_NoWeb : ∀ (kV doc pm : Value) (an : Option Addr) (cdv ct : Value) (us : List Value), us.length = 3 → bindArgs (PySem.W.fnOf "__init__" "NoWeb.__init__" (defArgs (inClass (top 2) 0)) (defBody (inClass (top 2) 0)) (defScope (inClass (top 2) 0)) .none kV doc pm an cdv ct) ⟨us, []⟩ = pure ((["self", "at", "what"] : List Str).zip us) := fun _ _ _ _ _ _ us hl => match us, hl with | [_, _, _], _ => rfl
theorem bf__law_bag : Fx.BindF "_law_bag" "_law_bag" (top 25) ["_law_script", "_law_at"] := fun _ _ _ _ _ _ us hl => match us, hl with | [_, _], _ => rfl
theorem bf__law_take : Fx.BindF "_law_take" "_law_take" (top 26) ["_law_bag_here", "_law_many"] := fun _ _ _ _ _ _ us hl => match us, hl with | [_, _], _ => rfl
theorem bf__law_unlike : Fx.BindF "_law_unlike" "_law_unlike" (top 27) ["_law_bag_here", "_law_many", "_law_count"] := fun _ _ _ _ _ _ us hl => match us, hl with | [_, _, _], _ => rfl
theorem bf__law_rooms : Fx.BindF "_law_rooms" "_law_rooms" (top 28) ["_law_bag_here", "_law_most", "_law_widest"] := fun _ _ _ _ _ _ us hl => match us, hl with | [_, _, _], _ => rfl
theorem bf__law_web : Fx.BindF "_law_web" "_law_web" (top 29) ["_law_rooms_here"] := fun _ _ _ _ _ _ us hl => match us, hl with | [_], _ => rfl
theorem bf__law_pokes : Fx.BindF "_law_pokes" "_law_pokes" (top 30) ["_law_bag_here", "_law_rooms_here", "_law_times", "_law_most"] := fun _ _ _ _ _ _ us hl => match us, hl with | [_, _, _, _], _ => rfl
theorem bf__law_needs : Fx.BindF "_law_needs" "_law_needs" (top 31) ["_law_rooms_here", "_law_put", "_law_cells"] := fun _ _ _ _ _ _ us hl => match us, hl with | [_, _, _], _ => rfl
theorem bf__law_whole : Fx.BindF "_law_whole" "_law_whole" (top 32) ["_law_thing"] := fun _ _ _ _ _ _ us hl => match us, hl with | [_], _ => rfl
theorem bf__law_is_way : Fx.BindF "_law_is_way" "_law_is_way" (top 33) ["_law_rooms_here", "_law_put", "_law_told", "_law_high", "_law_aim"] := fun _ _ _ _ _ _ us hl => match us, hl with | [_, _, _, _, _], _ => rfl
theorem bf__law_long : Fx.BindF "_law_long" "_law_long" (top 34) ["_law_bag_here"] := fun _ _ _ _ _ _ us hl => match us, hl with | [_], _ => rfl
theorem bf_law : Fx.BindF "law" "law" (top 35) ["_law_script"] := fun _ _ _ _ _ _ us hl => match us, hl with | [_], _ => rfl
theorem all_mk {P : Program} {w : World} {K : PySem.W.Frag} {h : Heap} {mg : Str → Option Value} {fa f_is_whole f_is_from f_is_size f_are_hears f_rows_heard f_is_rule f_fault_of f_look_rooms f_Web___init__ C_Web f_Web_rooms f_is_known f_heard_cells f_way_by f_way dk_way cl_way pl_way C_Room f_Room___init__ TT DD T1 T2 C_NoWeb f_NoWeb___init__ f__law_bag f__law_take f__law_unlike f__law_rooms f__law_web f__law_pokes f__law_needs f__law_whole f__law_is_way f__law_long f_law : Addr} (X : K.In h) (G : h.Ns mainGlobals mg) (hfa : mg "law" = some (.ref fa))
    {ocis_whole kVis_whole dcis_whole pmis_whole cdis_whole ctis_whole : Value} {odis_whole anis_whole : Option Addr} {slis_whole : Array (Option Value)}
    {ocis_from kVis_from dcis_from pmis_from cdis_from ctis_from : Value} {odis_from anis_from : Option Addr} {slis_from : Array (Option Value)}
    {ocis_size kVis_size dcis_size pmis_size cdis_size ctis_size : Value} {odis_size anis_size : Option Addr} {slis_size : Array (Option Value)}
    {ocare_hears kVare_hears dcare_hears pmare_hears cdare_hears ctare_hears : Value} {odare_hears anare_hears : Option Addr} {slare_hears : Array (Option Value)}
    {ocrows_heard kVrows_heard dcrows_heard pmrows_heard cdrows_heard ctrows_heard : Value} {odrows_heard anrows_heard : Option Addr} {slrows_heard : Array (Option Value)}
    {ocis_rule kVis_rule dcis_rule pmis_rule cdis_rule ctis_rule : Value} {odis_rule anis_rule : Option Addr} {slis_rule : Array (Option Value)}
    {ocfault_of kVfault_of dcfault_of pmfault_of cdfault_of ctfault_of : Value} {odfault_of anfault_of : Option Addr} {slfault_of : Array (Option Value)}
    {oclook_rooms kVlook_rooms dclook_rooms pmlook_rooms cdlook_rooms ctlook_rooms : Value} {odlook_rooms anlook_rooms : Option Addr} {sllook_rooms : Array (Option Value)}
    {ocWeb___init__ kVWeb___init__ dcWeb___init__ pmWeb___init__ cdWeb___init__ ctWeb___init__ : Value} {odWeb___init__ anWeb___init__ : Option Addr} {slWeb___init__ : Array (Option Value)}
    {ocWeb_rooms kVWeb_rooms dcWeb_rooms pmWeb_rooms cdWeb_rooms ctWeb_rooms : Value} {odWeb_rooms anWeb_rooms : Option Addr} {slWeb_rooms : Array (Option Value)}
    {ocis_known kVis_known dcis_known pmis_known cdis_known ctis_known : Value} {odis_known anis_known : Option Addr} {slis_known : Array (Option Value)}
    {ocheard_cells kVheard_cells dcheard_cells pmheard_cells cdheard_cells ctheard_cells : Value} {odheard_cells anheard_cells : Option Addr} {slheard_cells : Array (Option Value)}
    {ocway_by kVway_by dcway_by pmway_by cdway_by ctway_by : Value} {odway_by anway_by : Option Addr} {slway_by : Array (Option Value)}
    {ocway dcway pmway ctway : Value} {odway anway : Option Addr} {slway : Array (Option Value)}
    {ocI dcI pmI cdI ctI ocT : Value} {odI anI odT odA odB : Option Addr} {slI slT slA slB : Array (Option Value)} {nT nA nB : Nat} {tk2 tk0 tkB : Tok}
    {ocNoWeb___init__ kVNoWeb___init__ dcNoWeb___init__ pmNoWeb___init__ cdNoWeb___init__ ctNoWeb___init__ : Value} {odNoWeb___init__ anNoWeb___init__ : Option Addr} {slNoWeb___init__ : Array (Option Value)}
    {tkMOST_SIZE : Tok}
    {tkMOST_HEARD : Tok}
    {tkMOST_TABLE : Tok}
    {tkMOST_ROOMS : Tok}
    {oc_law_bag kV_law_bag dc_law_bag pm_law_bag cd_law_bag ct_law_bag : Value} {od_law_bag an_law_bag : Option Addr} {sl_law_bag : Array (Option Value)}
    {oc_law_take kV_law_take dc_law_take pm_law_take cd_law_take ct_law_take : Value} {od_law_take an_law_take : Option Addr} {sl_law_take : Array (Option Value)}
    {oc_law_unlike kV_law_unlike dc_law_unlike pm_law_unlike cd_law_unlike ct_law_unlike : Value} {od_law_unlike an_law_unlike : Option Addr} {sl_law_unlike : Array (Option Value)}
    {oc_law_rooms kV_law_rooms dc_law_rooms pm_law_rooms cd_law_rooms ct_law_rooms : Value} {od_law_rooms an_law_rooms : Option Addr} {sl_law_rooms : Array (Option Value)}
    {oc_law_web kV_law_web dc_law_web pm_law_web cd_law_web ct_law_web : Value} {od_law_web an_law_web : Option Addr} {sl_law_web : Array (Option Value)}
    {oc_law_pokes kV_law_pokes dc_law_pokes pm_law_pokes cd_law_pokes ct_law_pokes : Value} {od_law_pokes an_law_pokes : Option Addr} {sl_law_pokes : Array (Option Value)}
    {oc_law_needs kV_law_needs dc_law_needs pm_law_needs cd_law_needs ct_law_needs : Value} {od_law_needs an_law_needs : Option Addr} {sl_law_needs : Array (Option Value)}
    {oc_law_whole kV_law_whole dc_law_whole pm_law_whole cd_law_whole ct_law_whole : Value} {od_law_whole an_law_whole : Option Addr} {sl_law_whole : Array (Option Value)}
    {oc_law_is_way kV_law_is_way dc_law_is_way pm_law_is_way cd_law_is_way ct_law_is_way : Value} {od_law_is_way an_law_is_way : Option Addr} {sl_law_is_way : Array (Option Value)}
    {oc_law_long kV_law_long dc_law_long pm_law_long cd_law_long ct_law_long : Value} {od_law_long an_law_long : Option Addr} {sl_law_long : Array (Option Value)}
    {oclaw kVlaw dclaw pmlaw cdlaw ctlaw : Value} {odlaw anlaw : Option Addr} {sllaw : Array (Option Value)}
    (a_is_whole : PySem.W.nsIn K mainGlobals "is_whole" = some (some (.ref f_is_whole)))
    (l_is_whole : K.lookup f_is_whole = some ⟨ocis_whole, odis_whole, .func (PySem.W.fnOf "is_whole" "is_whole" (defArgs (top 4)) (defBody (top 4)) (defScope (top 4)) .none kVis_whole dcis_whole pmis_whole anis_whole cdis_whole ctis_whole), slis_whole⟩)
    (c_is_whole : PySem.W.codeIn K cdis_whole "is_whole" = true)
    (k_is_whole : PySem.W.keepIn K (.ref f_is_whole) = true)
    (a_is_from : PySem.W.nsIn K mainGlobals "is_from" = some (some (.ref f_is_from)))
    (l_is_from : K.lookup f_is_from = some ⟨ocis_from, odis_from, .func (PySem.W.fnOf "is_from" "is_from" (defArgs (top 5)) (defBody (top 5)) (defScope (top 5)) .none kVis_from dcis_from pmis_from anis_from cdis_from ctis_from), slis_from⟩)
    (c_is_from : PySem.W.codeIn K cdis_from "is_from" = true)
    (k_is_from : PySem.W.keepIn K (.ref f_is_from) = true)
    (a_is_size : PySem.W.nsIn K mainGlobals "is_size" = some (some (.ref f_is_size)))
    (l_is_size : K.lookup f_is_size = some ⟨ocis_size, odis_size, .func (PySem.W.fnOf "is_size" "is_size" (defArgs (top 12)) (defBody (top 12)) (defScope (top 12)) .none kVis_size dcis_size pmis_size anis_size cdis_size ctis_size), slis_size⟩)
    (c_is_size : PySem.W.codeIn K cdis_size "is_size" = true)
    (k_is_size : PySem.W.keepIn K (.ref f_is_size) = true)
    (a_are_hears : PySem.W.nsIn K mainGlobals "are_hears" = some (some (.ref f_are_hears)))
    (l_are_hears : K.lookup f_are_hears = some ⟨ocare_hears, odare_hears, .func (PySem.W.fnOf "are_hears" "are_hears" (defArgs (top 13)) (defBody (top 13)) (defScope (top 13)) .none kVare_hears dcare_hears pmare_hears anare_hears cdare_hears ctare_hears), slare_hears⟩)
    (c_are_hears : PySem.W.codeIn K cdare_hears "are_hears" = true)
    (k_are_hears : PySem.W.keepIn K (.ref f_are_hears) = true)
    (a_rows_heard : PySem.W.nsIn K mainGlobals "rows_heard" = some (some (.ref f_rows_heard)))
    (l_rows_heard : K.lookup f_rows_heard = some ⟨ocrows_heard, odrows_heard, .func (PySem.W.fnOf "rows_heard" "rows_heard" (defArgs (top 14)) (defBody (top 14)) (defScope (top 14)) .none kVrows_heard dcrows_heard pmrows_heard anrows_heard cdrows_heard ctrows_heard), slrows_heard⟩)
    (c_rows_heard : PySem.W.codeIn K cdrows_heard "rows_heard" = true)
    (k_rows_heard : PySem.W.keepIn K (.ref f_rows_heard) = true)
    (a_is_rule : PySem.W.nsIn K mainGlobals "is_rule" = some (some (.ref f_is_rule)))
    (l_is_rule : K.lookup f_is_rule = some ⟨ocis_rule, odis_rule, .func (PySem.W.fnOf "is_rule" "is_rule" (defArgs (top 15)) (defBody (top 15)) (defScope (top 15)) .none kVis_rule dcis_rule pmis_rule anis_rule cdis_rule ctis_rule), slis_rule⟩)
    (c_is_rule : PySem.W.codeIn K cdis_rule "is_rule" = true)
    (k_is_rule : PySem.W.keepIn K (.ref f_is_rule) = true)
    (a_fault_of : PySem.W.nsIn K mainGlobals "fault_of" = some (some (.ref f_fault_of)))
    (l_fault_of : K.lookup f_fault_of = some ⟨ocfault_of, odfault_of, .func (PySem.W.fnOf "fault_of" "fault_of" (defArgs (top 16)) (defBody (top 16)) (defScope (top 16)) .none kVfault_of dcfault_of pmfault_of anfault_of cdfault_of ctfault_of), slfault_of⟩)
    (c_fault_of : PySem.W.codeIn K cdfault_of "fault_of" = true)
    (k_fault_of : PySem.W.keepIn K (.ref f_fault_of) = true)
    (a_look_rooms : PySem.W.nsIn K mainGlobals "look_rooms" = some (some (.ref f_look_rooms)))
    (l_look_rooms : K.lookup f_look_rooms = some ⟨oclook_rooms, odlook_rooms, .func (PySem.W.fnOf "look_rooms" "look_rooms" (defArgs (top 17)) (defBody (top 17)) (defScope (top 17)) .none kVlook_rooms dclook_rooms pmlook_rooms anlook_rooms cdlook_rooms ctlook_rooms), sllook_rooms⟩)
    (c_look_rooms : PySem.W.codeIn K cdlook_rooms "look_rooms" = true)
    (k_look_rooms : PySem.W.keepIn K (.ref f_look_rooms) = true)
    (aC_Web : PySem.W.nsIn K mainGlobals "Web" = some (some (.ref C_Web)))
    (og : PySem.W.specialIn K (.builtin "object.__class__") "__get__" = some (some (.builtin "getset_descriptor.__get__")))
    (ot : PySem.W.takesIn K (.builtin "object.__class__") = some true)
    (pg_Web : PySem.W.plainGet K C_Web Str.empty = true)
    (hd_Web : PySem.W.hasDictIn K C_Web = true)
    (ty_Web : PySem.W.typeIn K (.ref C_Web) = some (.type "type"))
    (po_Web : PySem.W.plainOver K C_Web = true)
    (sa_Web : PySem.W.findIn K (.ref C_Web) "__setattr__" = some (some (.builtin "object.__setattr__")))
    (e1_Web : PySem.W.findIn K (.ref C_Web) "__class__" = some (some (.builtin "object.__class__")))
    (e4_Web : PySem.W.mroIn K C_Web (.type "object") = some true)
    (mk_Web : PySem.W.makesIn K C_Web = true)
    (kc_Web : PySem.W.keepIn K (.ref C_Web) = true)
    (a_Web___init__ : PySem.W.findIn K (.ref C_Web) "__init__" = some (some (.ref f_Web___init__)))
    (i_Web___init__ : PySem.W.isFn K (.ref f_Web___init__) = true)
    (l_Web___init__ : K.lookup f_Web___init__ = some ⟨ocWeb___init__, odWeb___init__, .func (PySem.W.fnOf "__init__" "Web.__init__" (defArgs (inClass (top 18) 0)) (defBody (inClass (top 18) 0)) (defScope (inClass (top 18) 0)) .none kVWeb___init__ dcWeb___init__ pmWeb___init__ anWeb___init__ cdWeb___init__ ctWeb___init__), slWeb___init__⟩)
    (c_Web___init__ : PySem.W.codeIn K cdWeb___init__ "Web.__init__" = true)
    (k_Web___init__ : PySem.W.keepIn K (.ref f_Web___init__) = true)
    (a_Web_rooms : PySem.W.findIn K (.ref C_Web) "rooms" = some (some (.ref f_Web_rooms)))
    (i_Web_rooms : PySem.W.isFn K (.ref f_Web_rooms) = true)
    (l_Web_rooms : K.lookup f_Web_rooms = some ⟨ocWeb_rooms, odWeb_rooms, .func (PySem.W.fnOf "rooms" "Web.rooms" (defArgs (inClass (top 18) 1)) (defBody (inClass (top 18) 1)) (defScope (inClass (top 18) 1)) .none kVWeb_rooms dcWeb_rooms pmWeb_rooms anWeb_rooms cdWeb_rooms ctWeb_rooms), slWeb_rooms⟩)
    (c_Web_rooms : PySem.W.codeIn K cdWeb_rooms "Web.rooms" = true)
    (k_Web_rooms : PySem.W.keepIn K (.ref f_Web_rooms) = true)
    (a_is_known : PySem.W.nsIn K mainGlobals "is_known" = some (some (.ref f_is_known)))
    (l_is_known : K.lookup f_is_known = some ⟨ocis_known, odis_known, .func (PySem.W.fnOf "is_known" "is_known" (defArgs (top 20)) (defBody (top 20)) (defScope (top 20)) .none kVis_known dcis_known pmis_known anis_known cdis_known ctis_known), slis_known⟩)
    (c_is_known : PySem.W.codeIn K cdis_known "is_known" = true)
    (k_is_known : PySem.W.keepIn K (.ref f_is_known) = true)
    (a_heard_cells : PySem.W.nsIn K mainGlobals "heard_cells" = some (some (.ref f_heard_cells)))
    (l_heard_cells : K.lookup f_heard_cells = some ⟨ocheard_cells, odheard_cells, .func (PySem.W.fnOf "heard_cells" "heard_cells" (defArgs (top 21)) (defBody (top 21)) (defScope (top 21)) .none kVheard_cells dcheard_cells pmheard_cells anheard_cells cdheard_cells ctheard_cells), slheard_cells⟩)
    (c_heard_cells : PySem.W.codeIn K cdheard_cells "heard_cells" = true)
    (k_heard_cells : PySem.W.keepIn K (.ref f_heard_cells) = true)
    (a_way_by : PySem.W.nsIn K mainGlobals "way_by" = some (some (.ref f_way_by)))
    (l_way_by : K.lookup f_way_by = some ⟨ocway_by, odway_by, .func (PySem.W.fnOf "way_by" "way_by" (defArgs (top 22)) (defBody (top 22)) (defScope (top 22)) .none kVway_by dcway_by pmway_by anway_by cdway_by ctway_by), slway_by⟩)
    (c_way_by : PySem.W.codeIn K cdway_by "way_by" = true)
    (k_way_by : PySem.W.keepIn K (.ref f_way_by) = true)
    (a_way : PySem.W.nsIn K mainGlobals "way" = some (some (.ref f_way)))
    (l_way : K.lookup f_way = some ⟨ocway, odway, .func (PySem.W.fnOf "way" "way" (defArgs (top 23)) (defBody (top 23)) (defScope (top 23)) .none (.ref dk_way) dcway pmway anway (.ref cl_way) ctway), slway⟩)
    (c_way : PySem.W.codeIn K (.ref cl_way) "way" = true)
    (k_way : PySem.W.keepIn K (.ref f_way) = true)
    (d_way : PySem.W.nsIn K dk_way "pokes" = some (some Value.none))
    (aC_Room : PySem.W.nsIn K mainGlobals "Room" = some (some (.ref C_Room)))
    (pg_Room : PySem.W.plainGet K C_Room Str.empty = true)
    (hd_Room : PySem.W.hasDictIn K C_Room = true)
    (ty_Room : PySem.W.typeIn K (.ref C_Room) = some (.type "type"))
    (po_Room : PySem.W.plainOver K C_Room = true)
    (sa_Room : PySem.W.findIn K (.ref C_Room) "__setattr__" = some (some (.builtin "object.__setattr__")))
    (e1_Room : PySem.W.findIn K (.ref C_Room) "__class__" = some (some (.builtin "object.__class__")))
    (e4_Room : PySem.W.mroIn K C_Room (.type "object") = some true)
    (mk_Room : PySem.W.makesIn K C_Room = true)
    (kc_Room : PySem.W.keepIn K (.ref C_Room) = true)
    (a_Room___init__ : PySem.W.findIn K (.ref C_Room) "__init__" = some (some (.ref f_Room___init__)))
    (i_Room___init__ : PySem.W.isFn K (.ref f_Room___init__) = true)
    (l_Room___init__ : K.lookup f_Room___init__ = some ⟨ocI, odI, .func (PySem.W.fnOf "__init__" "Room.__init__" (defArgs (inClass (top 6) 0)) (defBody (inClass (top 6) 0)) (defScope (inClass (top 6) 0)) (.ref TT) (.ref DD) dcI pmI anI cdI ctI), slI⟩)
    (c_Room___init__ : PySem.W.codeIn K cdI "Room.__init__" = true)
    (k_Room___init__ : PySem.W.keepIn K (.ref f_Room___init__) = true)
    (lT : K.lookup TT = some ⟨ocT, odT, .seq (List.toArray [.ref T1]) nT, slT⟩)
    (lA : K.lookup T1 = some ⟨.type "tuple", odA, .seq (List.toArray []) nA, slA⟩)
    (d1 : PySem.W.nsIn K DD "size" = some (some (.int 2 tk2)))
    (d2 : PySem.W.nsIn K DD "first" = some (some (.int 0 tk0)))
    (d3 : PySem.W.nsIn K DD "rule" = some (some (.ref T2)))
    (lB : K.lookup T2 = some ⟨.type "tuple", odB, .seq (List.toArray [.int 0 tkB]) nB, slB⟩)
    (no_Room_hears : PySem.W.findIn K (.ref C_Room) "hears" = some none)
    (no_Room_size : PySem.W.findIn K (.ref C_Room) "size" = some none)
    (no_Room_first : PySem.W.findIn K (.ref C_Room) "first" = some none)
    (no_Room_rule : PySem.W.findIn K (.ref C_Room) "rule" = some none)
    (no_Web_kept : PySem.W.findIn K (.ref C_Web) "kept" = some none)
    (aC_NoWeb : PySem.W.nsIn K mainGlobals "NoWeb" = some (some (.ref C_NoWeb)))
    (hd_NoWeb : PySem.W.hasDictIn K C_NoWeb = true)
    (ty_NoWeb : PySem.W.typeIn K (.ref C_NoWeb) = some (.type "type"))
    (ex_NoWeb : PySem.W.subIn K (.ref C_NoWeb) (.type "BaseException") = some true)
    (sa_NoWeb : PySem.W.findIn K (.ref C_NoWeb) "__setattr__" = some (some (.builtin "object.__setattr__")))
    (kc_NoWeb : PySem.W.keepIn K (.ref C_NoWeb) = true)
    (qx_NoWeb : PySem.W.excInitIn K C_NoWeb [.type "ValueError", .type "Exception", .type "BaseException", .type "object"] "ValueError.__new__" = true)
    (ox_NoWeb : PySem.W.excOver K C_NoWeb [.type "ValueError", .type "Exception", .type "BaseException", .type "object"] = true)
    (a_NoWeb___init__ : PySem.W.findIn K (.ref C_NoWeb) "__init__" = some (some (.ref f_NoWeb___init__)))
    (t_NoWeb___init__ : PySem.W.typeIn K (.ref f_NoWeb___init__) = some (.type "function"))
    (l_NoWeb___init__ : K.lookup f_NoWeb___init__ = some ⟨ocNoWeb___init__, odNoWeb___init__, .func (PySem.W.fnOf "__init__" "NoWeb.__init__" (defArgs (inClass (top 2) 0)) (defBody (inClass (top 2) 0)) (defScope (inClass (top 2) 0)) .none kVNoWeb___init__ dcNoWeb___init__ pmNoWeb___init__ anNoWeb___init__ cdNoWeb___init__ ctNoWeb___init__), slNoWeb___init__⟩)
    (c_NoWeb___init__ : PySem.W.codeIn K cdNoWeb___init__ "NoWeb.__init__" = true)
    (k_NoWeb___init__ : PySem.W.keepIn K (.ref f_NoWeb___init__) = true)
    (no_NoWeb_at : PySem.W.findIn K (.ref C_NoWeb) "at" = some none)
    (no_NoWeb_what : PySem.W.findIn K (.ref C_NoWeb) "what" = some none)
    (ac_MOST_SIZE : PySem.W.nsIn K mainGlobals "MOST_SIZE" = some (some (.int 60 tkMOST_SIZE)))
    (ac_MOST_HEARD : PySem.W.nsIn K mainGlobals "MOST_HEARD" = some (some (.int 3 tkMOST_HEARD)))
    (ac_MOST_TABLE : PySem.W.nsIn K mainGlobals "MOST_TABLE" = some (some (.int 2000 tkMOST_TABLE)))
    (ac_MOST_ROOMS : PySem.W.nsIn K mainGlobals "MOST_ROOMS" = some (some (.int 12 tkMOST_ROOMS)))
    (a__law_bag : PySem.W.nsIn K mainGlobals "_law_bag" = some (some (.ref f__law_bag)))
    (l__law_bag : K.lookup f__law_bag = some ⟨oc_law_bag, od_law_bag, .func (PySem.W.fnOf "_law_bag" "_law_bag" (defArgs (top 25)) (defBody (top 25)) (defScope (top 25)) .none kV_law_bag dc_law_bag pm_law_bag an_law_bag cd_law_bag ct_law_bag), sl_law_bag⟩)
    (c__law_bag : PySem.W.codeIn K cd_law_bag "_law_bag" = true)
    (k__law_bag : PySem.W.keepIn K (.ref f__law_bag) = true)
    (a__law_take : PySem.W.nsIn K mainGlobals "_law_take" = some (some (.ref f__law_take)))
    (l__law_take : K.lookup f__law_take = some ⟨oc_law_take, od_law_take, .func (PySem.W.fnOf "_law_take" "_law_take" (defArgs (top 26)) (defBody (top 26)) (defScope (top 26)) .none kV_law_take dc_law_take pm_law_take an_law_take cd_law_take ct_law_take), sl_law_take⟩)
    (c__law_take : PySem.W.codeIn K cd_law_take "_law_take" = true)
    (k__law_take : PySem.W.keepIn K (.ref f__law_take) = true)
    (a__law_unlike : PySem.W.nsIn K mainGlobals "_law_unlike" = some (some (.ref f__law_unlike)))
    (l__law_unlike : K.lookup f__law_unlike = some ⟨oc_law_unlike, od_law_unlike, .func (PySem.W.fnOf "_law_unlike" "_law_unlike" (defArgs (top 27)) (defBody (top 27)) (defScope (top 27)) .none kV_law_unlike dc_law_unlike pm_law_unlike an_law_unlike cd_law_unlike ct_law_unlike), sl_law_unlike⟩)
    (c__law_unlike : PySem.W.codeIn K cd_law_unlike "_law_unlike" = true)
    (k__law_unlike : PySem.W.keepIn K (.ref f__law_unlike) = true)
    (a__law_rooms : PySem.W.nsIn K mainGlobals "_law_rooms" = some (some (.ref f__law_rooms)))
    (l__law_rooms : K.lookup f__law_rooms = some ⟨oc_law_rooms, od_law_rooms, .func (PySem.W.fnOf "_law_rooms" "_law_rooms" (defArgs (top 28)) (defBody (top 28)) (defScope (top 28)) .none kV_law_rooms dc_law_rooms pm_law_rooms an_law_rooms cd_law_rooms ct_law_rooms), sl_law_rooms⟩)
    (c__law_rooms : PySem.W.codeIn K cd_law_rooms "_law_rooms" = true)
    (k__law_rooms : PySem.W.keepIn K (.ref f__law_rooms) = true)
    (a__law_web : PySem.W.nsIn K mainGlobals "_law_web" = some (some (.ref f__law_web)))
    (l__law_web : K.lookup f__law_web = some ⟨oc_law_web, od_law_web, .func (PySem.W.fnOf "_law_web" "_law_web" (defArgs (top 29)) (defBody (top 29)) (defScope (top 29)) .none kV_law_web dc_law_web pm_law_web an_law_web cd_law_web ct_law_web), sl_law_web⟩)
    (c__law_web : PySem.W.codeIn K cd_law_web "_law_web" = true)
    (k__law_web : PySem.W.keepIn K (.ref f__law_web) = true)
    (a__law_pokes : PySem.W.nsIn K mainGlobals "_law_pokes" = some (some (.ref f__law_pokes)))
    (l__law_pokes : K.lookup f__law_pokes = some ⟨oc_law_pokes, od_law_pokes, .func (PySem.W.fnOf "_law_pokes" "_law_pokes" (defArgs (top 30)) (defBody (top 30)) (defScope (top 30)) .none kV_law_pokes dc_law_pokes pm_law_pokes an_law_pokes cd_law_pokes ct_law_pokes), sl_law_pokes⟩)
    (c__law_pokes : PySem.W.codeIn K cd_law_pokes "_law_pokes" = true)
    (k__law_pokes : PySem.W.keepIn K (.ref f__law_pokes) = true)
    (a__law_needs : PySem.W.nsIn K mainGlobals "_law_needs" = some (some (.ref f__law_needs)))
    (l__law_needs : K.lookup f__law_needs = some ⟨oc_law_needs, od_law_needs, .func (PySem.W.fnOf "_law_needs" "_law_needs" (defArgs (top 31)) (defBody (top 31)) (defScope (top 31)) .none kV_law_needs dc_law_needs pm_law_needs an_law_needs cd_law_needs ct_law_needs), sl_law_needs⟩)
    (c__law_needs : PySem.W.codeIn K cd_law_needs "_law_needs" = true)
    (k__law_needs : PySem.W.keepIn K (.ref f__law_needs) = true)
    (a__law_whole : PySem.W.nsIn K mainGlobals "_law_whole" = some (some (.ref f__law_whole)))
    (l__law_whole : K.lookup f__law_whole = some ⟨oc_law_whole, od_law_whole, .func (PySem.W.fnOf "_law_whole" "_law_whole" (defArgs (top 32)) (defBody (top 32)) (defScope (top 32)) .none kV_law_whole dc_law_whole pm_law_whole an_law_whole cd_law_whole ct_law_whole), sl_law_whole⟩)
    (c__law_whole : PySem.W.codeIn K cd_law_whole "_law_whole" = true)
    (k__law_whole : PySem.W.keepIn K (.ref f__law_whole) = true)
    (a__law_is_way : PySem.W.nsIn K mainGlobals "_law_is_way" = some (some (.ref f__law_is_way)))
    (l__law_is_way : K.lookup f__law_is_way = some ⟨oc_law_is_way, od_law_is_way, .func (PySem.W.fnOf "_law_is_way" "_law_is_way" (defArgs (top 33)) (defBody (top 33)) (defScope (top 33)) .none kV_law_is_way dc_law_is_way pm_law_is_way an_law_is_way cd_law_is_way ct_law_is_way), sl_law_is_way⟩)
    (c__law_is_way : PySem.W.codeIn K cd_law_is_way "_law_is_way" = true)
    (k__law_is_way : PySem.W.keepIn K (.ref f__law_is_way) = true)
    (a__law_long : PySem.W.nsIn K mainGlobals "_law_long" = some (some (.ref f__law_long)))
    (l__law_long : K.lookup f__law_long = some ⟨oc_law_long, od_law_long, .func (PySem.W.fnOf "_law_long" "_law_long" (defArgs (top 34)) (defBody (top 34)) (defScope (top 34)) .none kV_law_long dc_law_long pm_law_long an_law_long cd_law_long ct_law_long), sl_law_long⟩)
    (c__law_long : PySem.W.codeIn K cd_law_long "_law_long" = true)
    (k__law_long : PySem.W.keepIn K (.ref f__law_long) = true)
    (a_law : PySem.W.nsIn K mainGlobals "law" = some (some (.ref f_law)))
    (l_law : K.lookup f_law = some ⟨oclaw, odlaw, .func (PySem.W.fnOf "law" "law" (defArgs (top 35)) (defBody (top 35)) (defScope (top 35)) .none kVlaw dclaw pmlaw anlaw cdlaw ctlaw), sllaw⟩)
    (c_law : PySem.W.codeIn K cdlaw "law" = true)
    (k_law : PySem.W.keepIn K (.ref f_law) = true)
    (z_len : PySem.W.nsIn K mainGlobals "len" = some none)
    (z_abs : PySem.W.nsIn K mainGlobals "abs" = some none)
    (z_isinstance : PySem.W.nsIn K mainGlobals "isinstance" = some none)
    (z_range : PySem.W.nsIn K mainGlobals "range" = some none)
    (z_min : PySem.W.nsIn K mainGlobals "min" = some none)
    (z_max : PySem.W.nsIn K mainGlobals "max" = some none)
    (z_list : PySem.W.nsIn K mainGlobals "list" = some none)
    (z_tuple : PySem.W.nsIn K mainGlobals "tuple" = some none)
    (z_str : PySem.W.nsIn K mainGlobals "str" = some none)
    (z_int : PySem.W.nsIn K mainGlobals "int" = some none)
    (z_bool : PySem.W.nsIn K mainGlobals "bool" = some none)
    (z_repr : PySem.W.nsIn K mainGlobals "repr" = some none)
    (z_set : PySem.W.nsIn K mainGlobals "set" = some none)
    (z_all : PySem.W.nsIn K mainGlobals "all" = some none)
    (z_sorted : PySem.W.nsIn K mainGlobals "sorted" = some none)
    (z_enumerate : PySem.W.nsIn K mainGlobals "enumerate" = some none)
    (z_zip : PySem.W.nsIn K mainGlobals "zip" = some none)
    (z_dict : PySem.W.nsIn K mainGlobals "dict" = some none)
    (z_ValueError : PySem.W.nsIn K mainGlobals "ValueError" = some none)
    (z_TypeError : PySem.W.nsIn K mainGlobals "TypeError" = some none)
    (z_IndexError : PySem.W.nsIn K mainGlobals "IndexError" = some none)
    (z_any : PySem.W.nsIn K mainGlobals "any" = some none)
    (z_sum : PySem.W.nsIn K mainGlobals "sum" = some none)
    (z_reversed : PySem.W.nsIn K mainGlobals "reversed" = some none)
    (z_KeyError : PySem.W.nsIn K mainGlobals "KeyError" = some none)
    (z_LookupError : PySem.W.nsIn K mainGlobals "LookupError" = some none)
    (z_ArithmeticError : PySem.W.nsIn K mainGlobals "ArithmeticError" = some none)
    (z_OverflowError : PySem.W.nsIn K mainGlobals "OverflowError" = some none)
    (z_RuntimeError : PySem.W.nsIn K mainGlobals "RuntimeError" = some none)
    (z_ZeroDivisionError : PySem.W.nsIn K mainGlobals "ZeroDivisionError" = some none)
    (z_StopIteration : PySem.W.nsIn K mainGlobals "StopIteration" = some none)
    (base : Heap) (hbase : K.In base) (hbg : base.Ns mainGlobals mg)
    (L_way : LamAt base mg cl_way pl_way "way.<locals>.<lambda>")
    : FnAtG P w K mg base CX0 21 "law" ["_law_script"] aLaw := by
  have D_is_whole : DefAt K mg "is_whole" (top 4) ["thing"] [] := Fx.defat_mk X G a_is_whole l_is_whole c_is_whole k_is_whole bf_is_whole (fun e he => nomatch he)
  have F_is_whole : Fun K "is_whole" "is_whole" (top 4) f_is_whole _ := fun_mk (st := (top 4)) l_is_whole c_is_whole k_is_whole
  have D_is_from : DefAt K mg "is_from" (top 5) ["thing", "least", "most"] [] := Fx.defat_mk X G a_is_from l_is_from c_is_from k_is_from bf_is_from (fun e he => nomatch he)
  have F_is_from : Fun K "is_from" "is_from" (top 5) f_is_from _ := fun_mk (st := (top 5)) l_is_from c_is_from k_is_from
  have D_is_size : DefAt K mg "is_size" (top 12) ["thing"] [] := Fx.defat_mk X G a_is_size l_is_size c_is_size k_is_size bf_is_size (fun e he => nomatch he)
  have F_is_size : Fun K "is_size" "is_size" (top 12) f_is_size _ := fun_mk (st := (top 12)) l_is_size c_is_size k_is_size
  have D_are_hears : DefAt K mg "are_hears" (top 13) ["thing", "many"] [] := Fx.defat_mk X G a_are_hears l_are_hears c_are_hears k_are_hears bf_are_hears (fun e he => nomatch he)
  have F_are_hears : Fun K "are_hears" "are_hears" (top 13) f_are_hears _ := fun_mk (st := (top 13)) l_are_hears c_are_hears k_are_hears
  have D_rows_heard : DefAt K mg "rows_heard" (top 14) ["rooms", "hears"] [] := Fx.defat_mk X G a_rows_heard l_rows_heard c_rows_heard k_rows_heard bf_rows_heard (fun e he => nomatch he)
  have F_rows_heard : Fun K "rows_heard" "rows_heard" (top 14) f_rows_heard _ := fun_mk (st := (top 14)) l_rows_heard c_rows_heard k_rows_heard
  have D_is_rule : DefAt K mg "is_rule" (top 15) ["rooms", "at"] [] := Fx.defat_mk X G a_is_rule l_is_rule c_is_rule k_is_rule bf_is_rule (fun e he => nomatch he)
  have F_is_rule : Fun K "is_rule" "is_rule" (top 15) f_is_rule _ := fun_mk (st := (top 15)) l_is_rule c_is_rule k_is_rule
  have D_fault_of : DefAt K mg "fault_of" (top 16) ["rooms", "at"] [] := Fx.defat_mk X G a_fault_of l_fault_of c_fault_of k_fault_of bf_fault_of (fun e he => nomatch he)
  have F_fault_of : Fun K "fault_of" "fault_of" (top 16) f_fault_of _ := fun_mk (st := (top 16)) l_fault_of c_fault_of k_fault_of
  have D_look_rooms : DefAt K mg "look_rooms" (top 17) ["rooms"] [] := Fx.defat_mk X G a_look_rooms l_look_rooms c_look_rooms k_look_rooms bf_look_rooms (fun e he => nomatch he)
  have F_look_rooms : Fun K "look_rooms" "look_rooms" (top 17) f_look_rooms _ := fun_mk (st := (top 17)) l_look_rooms c_look_rooms k_look_rooms
  have c_Web := PySem.W.mg_of X G aC_Web
  have cl_Web : Cls K C_Web := ⟨pg_Web, hd_Web, po_Web, sa_Web⟩
  have in_Web : InsC K C_Web := ⟨cl_Web, e1_Web, og, ot, e4_Web⟩
  have D_Web___init__ : MkDef K mg C_Web "Web" "Web.__init__" (inClass (top 18) 0) ["self", "rooms"] [] := Fx.mkdef_mk X G aC_Web mk_Web kc_Web a_Web___init__ i_Web___init__ l_Web___init__ c_Web___init__ k_Web___init__ bf_Web___init__ (fun e he => nomatch he)
  have D_Web_rooms : MethDef K C_Web "rooms" "Web.rooms" (inClass (top 18) 1) ["self"] [] := Fx.methdef_mk a_Web_rooms i_Web_rooms l_Web_rooms c_Web_rooms k_Web_rooms bf_Web_rooms (fun e he => nomatch he)
  have D_is_known : DefAt K mg "is_known" (top 20) ["cell", "pokes"] [] := Fx.defat_mk X G a_is_known l_is_known c_is_known k_is_known bf_is_known (fun e he => nomatch he)
  have F_is_known : Fun K "is_known" "is_known" (top 20) f_is_known _ := fun_mk (st := (top 20)) l_is_known c_is_known k_is_known
  have D_heard_cells : DefAt K mg "heard_cells" (top 21) ["web", "cell"] [] := Fx.defat_mk X G a_heard_cells l_heard_cells c_heard_cells k_heard_cells bf_heard_cells (fun e he => nomatch he)
  have F_heard_cells : Fun K "heard_cells" "heard_cells" (top 21) f_heard_cells _ := fun_mk (st := (top 21)) l_heard_cells c_heard_cells k_heard_cells
  have D_way_by : DefAt K mg "way_by" (top 22) ["web", "cell", "goal", "known"] [] := Fx.defat_mk X G a_way_by l_way_by c_way_by k_way_by bf_way_by (fun e he => nomatch he)
  have F_way_by : Fun K "way_by" "way_by" (top 22) f_way_by _ := fun_mk (st := (top 22)) l_way_by c_way_by k_way_by
  have D_way : DefAtK K mg "way" (top 23) ["web", "cell", "goal", "pokes"] (.ref cl_way) [(3, ["pokes"], [0, 1, 2, 4]), (3, [], [0, 1, 2, 3]), (0, ["web", "goal", "cell"], [1, 3, 2, 0])] := Fy.defatK_mk1 X G a_way l_way c_way k_way d_way (fun e he => by simp only [List.mem_cons, List.not_mem_nil, or_false] at he; rcases he with rfl | rfl | rfl <;> first | exact .inl bk_way_0 | exact .inr <| .inl bk_way_1 | exact .inr <| .inr bk_way_2)
  have c_Room := PySem.W.mg_of X G aC_Room
  have cl_Room : Cls K C_Room := ⟨pg_Room, hd_Room, po_Room, sa_Room⟩
  have in_Room : InsC K C_Room := ⟨cl_Room, e1_Room, og, ot, e4_Room⟩
  have FIr : FI K T1 T2 f_Room___init__ _ := ⟨⟨ocI, odI, _, _, dcI, pmI, anI, cdI, ctI, slI, rfl, l_Room___init__, c_Room___init__, .inr ⟨by simp, TT, _, [.ref T1], nT, rfl, lT, rfl, .cons rfl .nil⟩, .inr ⟨DD, rfl, fun q hq => by
    simp only [List.mem_cons, List.not_mem_nil, or_false] at hq
    rcases hq with rfl | rfl | rfl
    · exact ⟨_, d1, _, rfl⟩
    · exact ⟨_, d2, _, rfl⟩
    · exact ⟨_, d3, rfl⟩⟩⟩, k_Room___init__⟩
  have R_Room : RoomM K C_Room T1 T2 f_Room___init__ _ := ⟨⟨mk_Room, a_Room___init__, i_Room___init__, kc_Room⟩, FIr, fun W => ⟨T1, [], rfl, .inr ⟨_, _, _, lA, rfl, rfl, by decide, .nil⟩, rfl⟩, fun W => ⟨T2, [.int 0], rfl, .inr ⟨_, _, _, lB, rfl, rfl, Nat.le_of_ble_eq_true rfl, .cons ⟨_, rfl⟩ .nil⟩, RDs.of_ints [0]⟩⟩
  have RC : RoomC K C_Room := ⟨cl_Room, no_Room_hears, no_Room_size, no_Room_first, no_Room_rule⟩
  have c_NoWeb := PySem.W.mg_of X G aC_NoWeb
  have gx_NoWeb : Gx.GexC K C_NoWeb := Hq.gexc_mk Fx.bx_ValueError qx_NoWeb ox_NoWeb hd_NoWeb sa_NoWeb ex_NoWeb ty_NoWeb kc_NoWeb
  have X_NoWeb : XcAt P w K mg C_NoWeb "NoWeb" ["at", "what"] := Fx.xcat_mk X G aC_NoWeb gx_NoWeb (by decide) a_NoWeb___init__ t_NoWeb___init__ (Gx.init2 (fun_mk (st := (inClass (top 2) 0)) l_NoWeb___init__ c_NoWeb___init__ k_NoWeb___init__) it_NoWeb rfl (by decide) (fun s us hu => .of_eq (bi_NoWeb _ _ _ _ _ _ us hu)) gx_NoWeb no_NoWeb_at no_NoWeb_what)
  have g_MOST_SIZE := PySem.W.mg_of X G ac_MOST_SIZE
  have g_MOST_HEARD := PySem.W.mg_of X G ac_MOST_HEARD
  have g_MOST_TABLE := PySem.W.mg_of X G ac_MOST_TABLE
  have g_MOST_ROOMS := PySem.W.mg_of X G ac_MOST_ROOMS
  have D__law_bag : DefAt K mg "_law_bag" (top 25) ["_law_script", "_law_at"] [] := Fx.defat_mk X G a__law_bag l__law_bag c__law_bag k__law_bag bf__law_bag (fun e he => nomatch he)
  have F__law_bag : Fun K "_law_bag" "_law_bag" (top 25) f__law_bag _ := fun_mk (st := (top 25)) l__law_bag c__law_bag k__law_bag
  have D__law_take : DefAt K mg "_law_take" (top 26) ["_law_bag_here", "_law_many"] [] := Fx.defat_mk X G a__law_take l__law_take c__law_take k__law_take bf__law_take (fun e he => nomatch he)
  have F__law_take : Fun K "_law_take" "_law_take" (top 26) f__law_take _ := fun_mk (st := (top 26)) l__law_take c__law_take k__law_take
  have D__law_unlike : DefAt K mg "_law_unlike" (top 27) ["_law_bag_here", "_law_many", "_law_count"] [] := Fx.defat_mk X G a__law_unlike l__law_unlike c__law_unlike k__law_unlike bf__law_unlike (fun e he => nomatch he)
  have F__law_unlike : Fun K "_law_unlike" "_law_unlike" (top 27) f__law_unlike _ := fun_mk (st := (top 27)) l__law_unlike c__law_unlike k__law_unlike
  have D__law_rooms : DefAt K mg "_law_rooms" (top 28) ["_law_bag_here", "_law_most", "_law_widest"] [] := Fx.defat_mk X G a__law_rooms l__law_rooms c__law_rooms k__law_rooms bf__law_rooms (fun e he => nomatch he)
  have F__law_rooms : Fun K "_law_rooms" "_law_rooms" (top 28) f__law_rooms _ := fun_mk (st := (top 28)) l__law_rooms c__law_rooms k__law_rooms
  have D__law_web : DefAt K mg "_law_web" (top 29) ["_law_rooms_here"] [] := Fx.defat_mk X G a__law_web l__law_web c__law_web k__law_web bf__law_web (fun e he => nomatch he)
  have F__law_web : Fun K "_law_web" "_law_web" (top 29) f__law_web _ := fun_mk (st := (top 29)) l__law_web c__law_web k__law_web
  have D__law_pokes : DefAt K mg "_law_pokes" (top 30) ["_law_bag_here", "_law_rooms_here", "_law_times", "_law_most"] [] := Fx.defat_mk X G a__law_pokes l__law_pokes c__law_pokes k__law_pokes bf__law_pokes (fun e he => nomatch he)
  have F__law_pokes : Fun K "_law_pokes" "_law_pokes" (top 30) f__law_pokes _ := fun_mk (st := (top 30)) l__law_pokes c__law_pokes k__law_pokes
  have D__law_needs : DefAt K mg "_law_needs" (top 31) ["_law_rooms_here", "_law_put", "_law_cells"] [] := Fx.defat_mk X G a__law_needs l__law_needs c__law_needs k__law_needs bf__law_needs (fun e he => nomatch he)
  have F__law_needs : Fun K "_law_needs" "_law_needs" (top 31) f__law_needs _ := fun_mk (st := (top 31)) l__law_needs c__law_needs k__law_needs
  have D__law_whole : DefAt K mg "_law_whole" (top 32) ["_law_thing"] [] := Fx.defat_mk X G a__law_whole l__law_whole c__law_whole k__law_whole bf__law_whole (fun e he => nomatch he)
  have F__law_whole : Fun K "_law_whole" "_law_whole" (top 32) f__law_whole _ := fun_mk (st := (top 32)) l__law_whole c__law_whole k__law_whole
  have D__law_is_way : DefAt K mg "_law_is_way" (top 33) ["_law_rooms_here", "_law_put", "_law_told", "_law_high", "_law_aim"] [] := Fx.defat_mk X G a__law_is_way l__law_is_way c__law_is_way k__law_is_way bf__law_is_way (fun e he => nomatch he)
  have F__law_is_way : Fun K "_law_is_way" "_law_is_way" (top 33) f__law_is_way _ := fun_mk (st := (top 33)) l__law_is_way c__law_is_way k__law_is_way
  have D__law_long : DefAt K mg "_law_long" (top 34) ["_law_bag_here"] [] := Fx.defat_mk X G a__law_long l__law_long c__law_long k__law_long bf__law_long (fun e he => nomatch he)
  have F__law_long : Fun K "_law_long" "_law_long" (top 34) f__law_long _ := fun_mk (st := (top 34)) l__law_long c__law_long k__law_long
  have D_law : DefAt K mg "law" (top 35) ["_law_script"] [] := Fx.defat_mk X G a_law l_law c_law k_law bf_law (fun e he => nomatch he)
  have F_law : Fun K "law" "law" (top 35) f_law _ := fun_mk (st := (top 35)) l_law c_law k_law
  have T : Bt mg := ⟨PySem.W.mg_none_of X G z_len, PySem.W.mg_none_of X G z_abs, PySem.W.mg_none_of X G z_isinstance, PySem.W.mg_none_of X G z_range, PySem.W.mg_none_of X G z_min, PySem.W.mg_none_of X G z_max, PySem.W.mg_none_of X G z_list, PySem.W.mg_none_of X G z_tuple, PySem.W.mg_none_of X G z_str, PySem.W.mg_none_of X G z_int, PySem.W.mg_none_of X G z_bool, PySem.W.mg_none_of X G z_repr, PySem.W.mg_none_of X G z_set, PySem.W.mg_none_of X G z_all, PySem.W.mg_none_of X G z_sorted, PySem.W.mg_none_of X G z_enumerate, PySem.W.mg_none_of X G z_zip, PySem.W.mg_none_of X G z_dict, PySem.W.mg_none_of X G z_ValueError, PySem.W.mg_none_of X G z_TypeError, PySem.W.mg_none_of X G z_IndexError, PySem.W.mg_none_of X G z_any, PySem.W.mg_none_of X G z_sum, PySem.W.mg_none_of X G z_reversed, PySem.W.mg_none_of X G z_KeyError, PySem.W.mg_none_of X G z_LookupError, PySem.W.mg_none_of X G z_ArithmeticError, PySem.W.mg_none_of X G z_OverflowError, PySem.W.mg_none_of X G z_RuntimeError, PySem.W.mg_none_of X G z_ZeroDivisionError, PySem.W.mg_none_of X G z_StopIteration⟩
  have G1 := ok_whole (P := P) (w := w) (base := base) D_is_whole T
  have G2 := ok_from D_is_from G1
  have G3 := ok_size D_is_size G2 g_MOST_SIZE
  have G4 := ok_hears D_are_hears T G2 g_MOST_HEARD
  have G5 := ok_rows D_rows_heard T RC G3
  have G6 := ok_rule D_is_rule T RC G5 G2 g_MOST_TABLE
  have G7 := ok_fault D_fault_of T RC G4 G3 G2 G6
  have G8 := ok_look D_look_rooms T in_Room c_Room X_NoWeb G7 g_MOST_ROOMS
  have WC : WebC K C_Web := ⟨cl_Web, no_Web_kept⟩
  have G9 := ok_initW D_Web___init__ WC G8
  have GR : MethAt P w K mg base CX0 1 C_Web "rooms" ["self"] (aRoomsW C_Room C_Web) := ok_roomsW D_Web_rooms WC
  have G13 := ok_known (P := P) (w := w) (base := base) D_is_known
  have G15 := ok_heardC D_heard_cells WC RC cl_Web GR
  have GW := ok_wayBy D_way_by T G15
  have GY := ok_way D_way T L_way G13 GW
  have GT : FnAt P w K mg base CX0 1 "_law_take" ["_law_bag_here", "_law_many"] aTake := ⟨_, _, ok_take F__law_take, PySem.W.mg_of X G a__law_take, k__law_take, F__law_take.binds bf__law_take, fun _ he => nomatch he⟩
  have GB : FnAt P w K mg base CX0 1 "_law_bag" ["_law_script", "_law_at"] aBag := ⟨_, _, ok_bag F__law_bag T, PySem.W.mg_of X G a__law_bag, k__law_bag, F__law_bag.binds bf__law_bag, fun _ he => nomatch he⟩
  have H1 := ok_unlike D__law_unlike T GT
  have H2 := ok_rms D__law_rooms T GT H1
  have H3 := ok_lawWeb D__law_web T RC R_Room c_Room G9
  have H4 := ok_pokes D__law_pokes T GT
  have H5 := ok_needsG (P := P) (w := w) (base := base) D__law_needs T
  have H6 := ok_wholeI (P := P) (w := w) (base := base) D__law_whole T
  have H7 := ok_isWayL D__law_is_way T H6
  have H8 := ok_longW D__law_long T GT H3 H7 GY
  exact FnAtG.of (ok_law D_law T GB GT H2 H3 H4 H5 H7 GY H8)
end Wd
namespace Wd.Wh
open PySem PyProof.Rows L2 Al Gx
set_option pp.deepTerms false in
set_option maxHeartbeats 0 in
theorem facts {P : Program} {w : World} {K : Hq.Frag} {h : Heap} {mg : Str → Option Value} {fa : Addr} (KX : K.In h) (G : h.Ns mainGlobals mg) (hmg : mg "law" = some (.ref fa)) (c : Hq.Says ds fs (tf.map (·.1)) h K) :
    ∃ TL : TabList, (∀ p ∈ TL.l, h.get? p.2.1 = some { cls := .none, data := .fields #[] } ∧ K.lookup p.2.1 = none ∧ PySem.W.CodeHd h p.1 p.2.1) ∧
      ∀ base : Heap, K.In base → base.Ns mainGlobals mg → (∀ p ∈ TL.l, LamX.TabB base mg p.1 p.2.1) → FnAtG P w K mg base CX0 21 "law" ["_law_script"] Fx.aLawS := by
  have k_0 : Hq.allB fs0 K = true := c.f fs0 (List.mem_of_getElem? (i := 0) rfl)
  have k_1 : Hq.allB fs1 K = true := c.f fs1 (List.mem_of_getElem? (i := 1) rfl)
  have k_2 : Hq.allB fs2 K = true := c.f fs2 (List.mem_of_getElem? (i := 2) rfl)
  have k_3 : Hq.allB fs3 K = true := c.f fs3 (List.mem_of_getElem? (i := 3) rfl)
  have k_4 : Hq.allB fs4 K = true := c.f fs4 (List.mem_of_getElem? (i := 4) rfl)
  obtain ⟨qa_is_whole, qb_is_whole, qc_is_whole, qd_is_whole, qe_is_whole, qf_is_whole, qg_is_whole, ql_is_whole⟩ := Hq.def_plain (c.def_ 0 (d := ⟨("is_whole", none), "is_whole", "is_whole", (top 4)⟩) rfl) (Hq.isNon_ok (Hq.allB_at k_0 1 rfl))
  obtain ⟨qa_is_from, qb_is_from, qc_is_from, qd_is_from, qe_is_from, qf_is_from, qg_is_from, ql_is_from⟩ := Hq.def_plain (c.def_ 1 (d := ⟨("is_from", none), "is_from", "is_from", (top 5)⟩) rfl) (Hq.isNon_ok (Hq.allB_at k_0 5 rfl))
  obtain ⟨qa_is_size, qb_is_size, qc_is_size, qd_is_size, qe_is_size, qf_is_size, qg_is_size, ql_is_size⟩ := Hq.def_plain (c.def_ 2 (d := ⟨("is_size", none), "is_size", "is_size", (top 12)⟩) rfl) (Hq.isNon_ok (Hq.allB_at k_0 9 rfl))
  obtain ⟨qa_are_hears, qb_are_hears, qc_are_hears, qd_are_hears, qe_are_hears, qf_are_hears, qg_are_hears, ql_are_hears⟩ := Hq.def_plain (c.def_ 3 (d := ⟨("are_hears", none), "are_hears", "are_hears", (top 13)⟩) rfl) (Hq.isNon_ok (Hq.allB_at k_0 13 rfl))
  obtain ⟨qa_rows_heard, qb_rows_heard, qc_rows_heard, qd_rows_heard, qe_rows_heard, qf_rows_heard, qg_rows_heard, ql_rows_heard⟩ := Hq.def_plain (c.def_ 4 (d := ⟨("rows_heard", none), "rows_heard", "rows_heard", (top 14)⟩) rfl) (Hq.isNon_ok (Hq.allB_at k_0 17 rfl))
  obtain ⟨qa_is_rule, qb_is_rule, qc_is_rule, qd_is_rule, qe_is_rule, qf_is_rule, qg_is_rule, ql_is_rule⟩ := Hq.def_plain (c.def_ 5 (d := ⟨("is_rule", none), "is_rule", "is_rule", (top 15)⟩) rfl) (Hq.isNon_ok (Hq.allB_at k_0 21 rfl))
  obtain ⟨qa_fault_of, qb_fault_of, qc_fault_of, qd_fault_of, qe_fault_of, qf_fault_of, qg_fault_of, ql_fault_of⟩ := Hq.def_plain (c.def_ 6 (d := ⟨("fault_of", none), "fault_of", "fault_of", (top 16)⟩) rfl) (Hq.isNon_ok (Hq.allB_at k_0 25 rfl))
  obtain ⟨qa_look_rooms, qb_look_rooms, qc_look_rooms, qd_look_rooms, qe_look_rooms, qf_look_rooms, qg_look_rooms, ql_look_rooms⟩ := Hq.def_plain (c.def_ 7 (d := ⟨("look_rooms", none), "look_rooms", "look_rooms", (top 17)⟩) rfl) (Hq.isNon_ok (Hq.allB_at k_0 29 rfl))
  obtain ⟨qa_Web___init__, qb_Web___init__, qc_Web___init__, qd_Web___init__, qe_Web___init__, qf_Web___init__, qg_Web___init__, ql_Web___init__⟩ := Hq.def_plain (c.def_ 8 (d := ⟨("Web", some "__init__"), "__init__", "Web.__init__", (inClass (top 18) 0)⟩) rfl) (Hq.isNon_ok (Hq.allB_at k_1 6 rfl))
  obtain ⟨qa_Web_rooms, qb_Web_rooms, qc_Web_rooms, qd_Web_rooms, qe_Web_rooms, qf_Web_rooms, qg_Web_rooms, ql_Web_rooms⟩ := Hq.def_plain (c.def_ 9 (d := ⟨("Web", some "rooms"), "rooms", "Web.rooms", (inClass (top 18) 1)⟩) rfl) (Hq.isNon_ok (Hq.allB_at k_1 11 rfl))
  obtain ⟨qa_is_known, qb_is_known, qc_is_known, qd_is_known, qe_is_known, qf_is_known, qg_is_known, ql_is_known⟩ := Hq.def_plain (c.def_ 10 (d := ⟨("is_known", none), "is_known", "is_known", (top 20)⟩) rfl) (Hq.isNon_ok (Hq.allB_at k_1 15 rfl))
  obtain ⟨qa_heard_cells, qb_heard_cells, qc_heard_cells, qd_heard_cells, qe_heard_cells, qf_heard_cells, qg_heard_cells, ql_heard_cells⟩ := Hq.def_plain (c.def_ 11 (d := ⟨("heard_cells", none), "heard_cells", "heard_cells", (top 21)⟩) rfl) (Hq.isNon_ok (Hq.allB_at k_1 19 rfl))
  obtain ⟨qa_way_by, qb_way_by, qc_way_by, qd_way_by, qe_way_by, qf_way_by, qg_way_by, ql_way_by⟩ := Hq.def_plain (c.def_ 12 (d := ⟨("way_by", none), "way_by", "way_by", (top 22)⟩) rfl) (Hq.isNon_ok (Hq.allB_at k_1 23 rfl))
  obtain ⟨qa_way, qb_way, qc_way, qd_way, qe_way, qf_way, qg_way, ql_way⟩ := Hq.def_klam (c.def_ 13 (d := ⟨("way", none), "way", "way", (top 23)⟩) rfl) (Hq.isNon_ok (Hq.allB_at k_1 27 rfl)) (Hq.isRefV_ok (Hq.allB_at k_1 28 rfl)) (Hq.isRefV_ok (Hq.allB_at k_1 29 rfl))
  obtain ⟨qa_Room___init__, qb_Room___init__, qc_Room___init__, qd_Room___init__, qe_Room___init__, qf_Room___init__, qg_Room___init__, ql_Room___init__⟩ := Hq.def_room (c.def_ 14 (d := ⟨("Room", some "__init__"), "__init__", "Room.__init__", (inClass (top 6) 0)⟩) rfl) (Hq.isRefV_ok (Hq.allB_at k_2 5 rfl)) (Hq.isRefV_ok (Hq.allB_at k_2 6 rfl))
  obtain ⟨qta, qtb, qtc, qlT⟩ := Hq.tup1_ok (Hq.allB_at k_2 7 rfl)
  obtain ⟨qua, qub, quc, qlA⟩ := Hq.tup0_ok (Hq.allB_at k_2 8 rfl)
  obtain ⟨qva, qvb, qvc, qvd, qlB⟩ := Hq.tupI_ok (Hq.allB_at k_2 9 rfl)
  obtain ⟨qtk2, qd1⟩ := Hq.isIntE_ok (Hq.allB_at k_2 10 rfl)
  obtain ⟨qtk0, qd2⟩ := Hq.isIntE_ok (Hq.allB_at k_2 11 rfl)
  obtain ⟨qa_NoWeb___init__, qb_NoWeb___init__, qc_NoWeb___init__, qd_NoWeb___init__, qe_NoWeb___init__, qf_NoWeb___init__, qg_NoWeb___init__, ql_NoWeb___init__⟩ := Hq.def_plain (c.def_ 15 (d := ⟨("NoWeb", some "__init__"), "__init__", "NoWeb.__init__", (inClass (top 2) 0)⟩) rfl) (Hq.isNon_ok (Hq.allB_at k_2 30 rfl))
  obtain ⟨qtac_MOST_SIZE, qnac_MOST_SIZE⟩ := Hq.isIntE_ok (Hq.allB_at k_2 35 rfl)
  obtain ⟨qtac_MOST_HEARD, qnac_MOST_HEARD⟩ := Hq.isIntE_ok (Hq.allB_at k_2 36 rfl)
  obtain ⟨qtac_MOST_TABLE, qnac_MOST_TABLE⟩ := Hq.isIntE_ok (Hq.allB_at k_2 37 rfl)
  obtain ⟨qtac_MOST_ROOMS, qnac_MOST_ROOMS⟩ := Hq.isIntE_ok (Hq.allB_at k_2 38 rfl)
  obtain ⟨qa__law_bag, qb__law_bag, qc__law_bag, qd__law_bag, qe__law_bag, qf__law_bag, qg__law_bag, ql__law_bag⟩ := Hq.def_plain (c.def_ 16 (d := ⟨("_law_bag", none), "_law_bag", "_law_bag", (top 25)⟩) rfl) (Hq.isNon_ok (Hq.allB_at k_3 0 rfl))
  obtain ⟨qa__law_take, qb__law_take, qc__law_take, qd__law_take, qe__law_take, qf__law_take, qg__law_take, ql__law_take⟩ := Hq.def_plain (c.def_ 17 (d := ⟨("_law_take", none), "_law_take", "_law_take", (top 26)⟩) rfl) (Hq.isNon_ok (Hq.allB_at k_3 4 rfl))
  obtain ⟨qa__law_unlike, qb__law_unlike, qc__law_unlike, qd__law_unlike, qe__law_unlike, qf__law_unlike, qg__law_unlike, ql__law_unlike⟩ := Hq.def_plain (c.def_ 18 (d := ⟨("_law_unlike", none), "_law_unlike", "_law_unlike", (top 27)⟩) rfl) (Hq.isNon_ok (Hq.allB_at k_3 8 rfl))
  obtain ⟨qa__law_rooms, qb__law_rooms, qc__law_rooms, qd__law_rooms, qe__law_rooms, qf__law_rooms, qg__law_rooms, ql__law_rooms⟩ := Hq.def_plain (c.def_ 19 (d := ⟨("_law_rooms", none), "_law_rooms", "_law_rooms", (top 28)⟩) rfl) (Hq.isNon_ok (Hq.allB_at k_3 12 rfl))
  obtain ⟨qa__law_web, qb__law_web, qc__law_web, qd__law_web, qe__law_web, qf__law_web, qg__law_web, ql__law_web⟩ := Hq.def_plain (c.def_ 20 (d := ⟨("_law_web", none), "_law_web", "_law_web", (top 29)⟩) rfl) (Hq.isNon_ok (Hq.allB_at k_3 16 rfl))
  obtain ⟨qa__law_pokes, qb__law_pokes, qc__law_pokes, qd__law_pokes, qe__law_pokes, qf__law_pokes, qg__law_pokes, ql__law_pokes⟩ := Hq.def_plain (c.def_ 21 (d := ⟨("_law_pokes", none), "_law_pokes", "_law_pokes", (top 30)⟩) rfl) (Hq.isNon_ok (Hq.allB_at k_3 20 rfl))
  obtain ⟨qa__law_needs, qb__law_needs, qc__law_needs, qd__law_needs, qe__law_needs, qf__law_needs, qg__law_needs, ql__law_needs⟩ := Hq.def_plain (c.def_ 22 (d := ⟨("_law_needs", none), "_law_needs", "_law_needs", (top 31)⟩) rfl) (Hq.isNon_ok (Hq.allB_at k_3 24 rfl))
  obtain ⟨qa__law_whole, qb__law_whole, qc__law_whole, qd__law_whole, qe__law_whole, qf__law_whole, qg__law_whole, ql__law_whole⟩ := Hq.def_plain (c.def_ 23 (d := ⟨("_law_whole", none), "_law_whole", "_law_whole", (top 32)⟩) rfl) (Hq.isNon_ok (Hq.allB_at k_3 28 rfl))
  obtain ⟨qa__law_is_way, qb__law_is_way, qc__law_is_way, qd__law_is_way, qe__law_is_way, qf__law_is_way, qg__law_is_way, ql__law_is_way⟩ := Hq.def_plain (c.def_ 24 (d := ⟨("_law_is_way", none), "_law_is_way", "_law_is_way", (top 33)⟩) rfl) (Hq.isNon_ok (Hq.allB_at k_3 32 rfl))
  obtain ⟨qa__law_long, qb__law_long, qc__law_long, qd__law_long, qe__law_long, qf__law_long, qg__law_long, ql__law_long⟩ := Hq.def_plain (c.def_ 25 (d := ⟨("_law_long", none), "_law_long", "_law_long", (top 34)⟩) rfl) (Hq.isNon_ok (Hq.allB_at k_3 36 rfl))
  obtain ⟨qa_law, qb_law, qc_law, qd_law, qe_law, qf_law, qg_law, ql_law⟩ := Hq.def_plain (c.def_ 26 (d := ⟨("law", none), "law", "law", (top 35)⟩) rfl) (Hq.isNon_ok (Hq.allB_at k_4 0 rfl))
  have hnd : ((Hq.tabsL K tf).map (·.2.1)).Nodup := of_decide_eq_true (Hq.allB_at (f := fun K => decide ((Hq.tabsL K tf).map (·.2.1)).Nodup) k_4 34 rfl)
  refine ⟨⟨Hq.tabsL K tf⟩, Hq.tabs_ok KX c.hd c.out c.empty, fun base hbase hbg hTB => ?_⟩
  letI : TabList := ⟨Hq.tabsL K tf⟩
  refine' Wd.all_mk (f_is_whole := (He.fAd K ("is_whole", none))) (f_is_from := (He.fAd K ("is_from", none))) (f_is_size := (He.fAd K ("is_size", none))) (f_are_hears := (He.fAd K ("are_hears", none))) (f_rows_heard := (He.fAd K ("rows_heard", none))) (f_is_rule := (He.fAd K ("is_rule", none))) (f_fault_of := (He.fAd K ("fault_of", none))) (f_look_rooms := (He.fAd K ("look_rooms", none))) (f_Web___init__ := (He.fAd K ("Web", some "__init__"))) (C_Web := (He.ga K "Web")) (f_Web_rooms := (He.fAd K ("Web", some "rooms"))) (f_is_known := (He.fAd K ("is_known", none))) (f_heard_cells := (He.fAd K ("heard_cells", none))) (f_way_by := (He.fAd K ("way_by", none))) (f_way := (He.fAd K ("way", none))) (dk_way := (Hq.adr (Hq.kvOf K (He.fAd K ("way", none))))) (cl_way := (Hq.tabC K ("way", none))) (pl_way := (Hq.tabP K ("way", none))) (C_Room := (He.ga K "Room")) (f_Room___init__ := (He.fAd K ("Room", some "__init__"))) (TT := (Hq.adr (Hq.dvOf K (He.fAd K ("Room", some "__init__"))))) (DD := (Hq.adr (Hq.kvOf K (He.fAd K ("Room", some "__init__"))))) (T1 := (Hq.t1At K (Hq.adr (Hq.dvOf K (He.fAd K ("Room", some "__init__")))))) (T2 := (Hq.nsA K (Hq.adr (Hq.kvOf K (He.fAd K ("Room", some "__init__")))) "rule")) (C_NoWeb := (He.ga K "NoWeb")) (f_NoWeb___init__ := (He.fAd K ("NoWeb", some "__init__"))) (f__law_bag := (He.fAd K ("_law_bag", none))) (f__law_take := (He.fAd K ("_law_take", none))) (f__law_unlike := (He.fAd K ("_law_unlike", none))) (f__law_rooms := (He.fAd K ("_law_rooms", none))) (f__law_web := (He.fAd K ("_law_web", none))) (f__law_pokes := (He.fAd K ("_law_pokes", none))) (f__law_needs := (He.fAd K ("_law_needs", none))) (f__law_whole := (He.fAd K ("_law_whole", none))) (f__law_is_way := (He.fAd K ("_law_is_way", none))) (f__law_long := (He.fAd K ("_law_long", none))) (f_law := (He.fAd K ("law", none))) KX G hmg ?h_a_is_whole ?h_l_is_whole ?h_c_is_whole ?h_k_is_whole ?h_a_is_from ?h_l_is_from ?h_c_is_from ?h_k_is_from ?h_a_is_size ?h_l_is_size ?h_c_is_size ?h_k_is_size ?h_a_are_hears ?h_l_are_hears ?h_c_are_hears ?h_k_are_hears ?h_a_rows_heard ?h_l_rows_heard ?h_c_rows_heard ?h_k_rows_heard ?h_a_is_rule ?h_l_is_rule ?h_c_is_rule ?h_k_is_rule ?h_a_fault_of ?h_l_fault_of ?h_c_fault_of ?h_k_fault_of ?h_a_look_rooms ?h_l_look_rooms ?h_c_look_rooms ?h_k_look_rooms ?h_aC_Web ?h_og ?h_ot ?h_pg_Web ?h_hd_Web ?h_ty_Web ?h_po_Web ?h_sa_Web ?h_e1_Web ?h_e4_Web ?h_mk_Web ?h_kc_Web ?h_a_Web___init__ ?h_i_Web___init__ ?h_l_Web___init__ ?h_c_Web___init__ ?h_k_Web___init__ ?h_a_Web_rooms ?h_i_Web_rooms ?h_l_Web_rooms ?h_c_Web_rooms ?h_k_Web_rooms ?h_a_is_known ?h_l_is_known ?h_c_is_known ?h_k_is_known ?h_a_heard_cells ?h_l_heard_cells ?h_c_heard_cells ?h_k_heard_cells ?h_a_way_by ?h_l_way_by ?h_c_way_by ?h_k_way_by ?h_a_way ?h_l_way ?h_c_way ?h_k_way ?h_d_way ?h_aC_Room ?h_pg_Room ?h_hd_Room ?h_ty_Room ?h_po_Room ?h_sa_Room ?h_e1_Room ?h_e4_Room ?h_mk_Room ?h_kc_Room ?h_a_Room___init__ ?h_i_Room___init__ ?h_l_Room___init__ ?h_c_Room___init__ ?h_k_Room___init__ ?h_lT ?h_lA ?h_d1 ?h_d2 ?h_d3 ?h_lB ?h_no_Room_hears ?h_no_Room_size ?h_no_Room_first ?h_no_Room_rule ?h_no_Web_kept ?h_aC_NoWeb ?h_hd_NoWeb ?h_ty_NoWeb ?h_ex_NoWeb ?h_sa_NoWeb ?h_kc_NoWeb ?h_qx_NoWeb ?h_ox_NoWeb ?h_a_NoWeb___init__ ?h_t_NoWeb___init__ ?h_l_NoWeb___init__ ?h_c_NoWeb___init__ ?h_k_NoWeb___init__ ?h_no_NoWeb_at ?h_no_NoWeb_what ?h_ac_MOST_SIZE ?h_ac_MOST_HEARD ?h_ac_MOST_TABLE ?h_ac_MOST_ROOMS ?h_a__law_bag ?h_l__law_bag ?h_c__law_bag ?h_k__law_bag ?h_a__law_take ?h_l__law_take ?h_c__law_take ?h_k__law_take ?h_a__law_unlike ?h_l__law_unlike ?h_c__law_unlike ?h_k__law_unlike ?h_a__law_rooms ?h_l__law_rooms ?h_c__law_rooms ?h_k__law_rooms ?h_a__law_web ?h_l__law_web ?h_c__law_web ?h_k__law_web ?h_a__law_pokes ?h_l__law_pokes ?h_c__law_pokes ?h_k__law_pokes ?h_a__law_needs ?h_l__law_needs ?h_c__law_needs ?h_k__law_needs ?h_a__law_whole ?h_l__law_whole ?h_c__law_whole ?h_k__law_whole ?h_a__law_is_way ?h_l__law_is_way ?h_c__law_is_way ?h_k__law_is_way ?h_a__law_long ?h_l__law_long ?h_c__law_long ?h_k__law_long ?h_a_law ?h_l_law ?h_c_law ?h_k_law ?h_z_len ?h_z_abs ?h_z_isinstance ?h_z_range ?h_z_min ?h_z_max ?h_z_list ?h_z_tuple ?h_z_str ?h_z_int ?h_z_bool ?h_z_repr ?h_z_set ?h_z_all ?h_z_sorted ?h_z_enumerate ?h_z_zip ?h_z_dict ?h_z_ValueError ?h_z_TypeError ?h_z_IndexError ?h_z_any ?h_z_sum ?h_z_reversed ?h_z_KeyError ?h_z_LookupError ?h_z_ArithmeticError ?h_z_OverflowError ?h_z_RuntimeError ?h_z_ZeroDivisionError ?h_z_StopIteration base hbase hbg ⟨List.mem_of_getElem? (i := 0) rfl, fun p hp e => Hq.tabs_one hnd (List.mem_of_getElem? (i := 0) rfl) hp e, hTB ((Hq.tabC K ("way", none)), (Hq.tabP K ("way", none)), "way.<locals>.<lambda>") (List.mem_of_getElem? (i := 0) rfl)⟩
  case h_a_is_whole => exact (Hq.isRef_ok (Hq.allB_at k_0 0 rfl))
  case h_l_is_whole => exact ql_is_whole
  case h_c_is_whole => exact (Hq.allB_at k_0 2 rfl)
  case h_k_is_whole => exact (Hq.allB_at k_0 3 rfl)
  case h_a_is_from => exact (Hq.isRef_ok (Hq.allB_at k_0 4 rfl))
  case h_l_is_from => exact ql_is_from
  case h_c_is_from => exact (Hq.allB_at k_0 6 rfl)
  case h_k_is_from => exact (Hq.allB_at k_0 7 rfl)
  case h_a_is_size => exact (Hq.isRef_ok (Hq.allB_at k_0 8 rfl))
  case h_l_is_size => exact ql_is_size
  case h_c_is_size => exact (Hq.allB_at k_0 10 rfl)
  case h_k_is_size => exact (Hq.allB_at k_0 11 rfl)
  case h_a_are_hears => exact (Hq.isRef_ok (Hq.allB_at k_0 12 rfl))
  case h_l_are_hears => exact ql_are_hears
  case h_c_are_hears => exact (Hq.allB_at k_0 14 rfl)
  case h_k_are_hears => exact (Hq.allB_at k_0 15 rfl)
  case h_a_rows_heard => exact (Hq.isRef_ok (Hq.allB_at k_0 16 rfl))
  case h_l_rows_heard => exact ql_rows_heard
  case h_c_rows_heard => exact (Hq.allB_at k_0 18 rfl)
  case h_k_rows_heard => exact (Hq.allB_at k_0 19 rfl)
  case h_a_is_rule => exact (Hq.isRef_ok (Hq.allB_at k_0 20 rfl))
  case h_l_is_rule => exact ql_is_rule
  case h_c_is_rule => exact (Hq.allB_at k_0 22 rfl)
  case h_k_is_rule => exact (Hq.allB_at k_0 23 rfl)
  case h_a_fault_of => exact (Hq.isRef_ok (Hq.allB_at k_0 24 rfl))
  case h_l_fault_of => exact ql_fault_of
  case h_c_fault_of => exact (Hq.allB_at k_0 26 rfl)
  case h_k_fault_of => exact (Hq.allB_at k_0 27 rfl)
  case h_a_look_rooms => exact (Hq.isRef_ok (Hq.allB_at k_0 28 rfl))
  case h_l_look_rooms => exact ql_look_rooms
  case h_c_look_rooms => exact (Hq.allB_at k_0 30 rfl)
  case h_k_look_rooms => exact (Hq.allB_at k_0 31 rfl)
  case h_aC_Web => exact (Hq.isRef_ok (Hq.allB_at k_0 32 rfl))
  case h_og => exact (Hq.isBlt_ok (Hq.allB_at k_0 33 rfl))
  case h_ot => exact (Hq.isOB_ok (Hq.allB_at k_0 34 rfl))
  case h_pg_Web => exact (Hq.allB_at k_0 35 rfl)
  case h_hd_Web => exact (Hq.allB_at k_0 36 rfl)
  case h_ty_Web => exact (Hq.isTy_ok (Hq.allB_at k_0 37 rfl))
  case h_po_Web => exact (Hq.allB_at k_0 38 rfl)
  case h_sa_Web => exact (Hq.isBlt_ok (Hq.allB_at k_0 39 rfl))
  case h_e1_Web => exact (Hq.isBlt_ok (Hq.allB_at k_1 0 rfl))
  case h_e4_Web => exact (Hq.isOB_ok (Hq.allB_at k_1 1 rfl))
  case h_mk_Web => exact (Hq.allB_at k_1 2 rfl)
  case h_kc_Web => exact (Hq.allB_at k_1 3 rfl)
  case h_a_Web___init__ => exact (Hq.isRef_ok (Hq.allB_at k_1 4 rfl))
  case h_i_Web___init__ => exact (Hq.allB_at k_1 5 rfl)
  case h_l_Web___init__ => exact ql_Web___init__
  case h_c_Web___init__ => exact (Hq.allB_at k_1 7 rfl)
  case h_k_Web___init__ => exact (Hq.allB_at k_1 8 rfl)
  case h_a_Web_rooms => exact (Hq.isRef_ok (Hq.allB_at k_1 9 rfl))
  case h_i_Web_rooms => exact (Hq.allB_at k_1 10 rfl)
  case h_l_Web_rooms => exact ql_Web_rooms
  case h_c_Web_rooms => exact (Hq.allB_at k_1 12 rfl)
  case h_k_Web_rooms => exact (Hq.allB_at k_1 13 rfl)
  case h_a_is_known => exact (Hq.isRef_ok (Hq.allB_at k_1 14 rfl))
  case h_l_is_known => exact ql_is_known
  case h_c_is_known => exact (Hq.allB_at k_1 16 rfl)
  case h_k_is_known => exact (Hq.allB_at k_1 17 rfl)
  case h_a_heard_cells => exact (Hq.isRef_ok (Hq.allB_at k_1 18 rfl))
  case h_l_heard_cells => exact ql_heard_cells
  case h_c_heard_cells => exact (Hq.allB_at k_1 20 rfl)
  case h_k_heard_cells => exact (Hq.allB_at k_1 21 rfl)
  case h_a_way_by => exact (Hq.isRef_ok (Hq.allB_at k_1 22 rfl))
  case h_l_way_by => exact ql_way_by
  case h_c_way_by => exact (Hq.allB_at k_1 24 rfl)
  case h_k_way_by => exact (Hq.allB_at k_1 25 rfl)
  case h_a_way => exact (Hq.isRef_ok (Hq.allB_at k_1 26 rfl))
  case h_l_way => exact ql_way
  case h_c_way => exact (Hq.allB_at k_1 30 rfl)
  case h_k_way => exact (Hq.allB_at k_1 31 rfl)
  case h_d_way => exact (Hq.isNonE_ok (Hq.allB_at k_1 32 rfl))
  case h_aC_Room => exact (Hq.isRef_ok (Hq.allB_at k_1 33 rfl))
  case h_pg_Room => exact (Hq.allB_at k_1 34 rfl)
  case h_hd_Room => exact (Hq.allB_at k_1 35 rfl)
  case h_ty_Room => exact (Hq.isTy_ok (Hq.allB_at k_1 36 rfl))
  case h_po_Room => exact (Hq.allB_at k_1 37 rfl)
  case h_sa_Room => exact (Hq.isBlt_ok (Hq.allB_at k_1 38 rfl))
  case h_e1_Room => exact (Hq.isBlt_ok (Hq.allB_at k_1 39 rfl))
  case h_e4_Room => exact (Hq.isOB_ok (Hq.allB_at k_2 0 rfl))
  case h_mk_Room => exact (Hq.allB_at k_2 1 rfl)
  case h_kc_Room => exact (Hq.allB_at k_2 2 rfl)
  case h_a_Room___init__ => exact (Hq.isRef_ok (Hq.allB_at k_2 3 rfl))
  case h_i_Room___init__ => exact (Hq.allB_at k_2 4 rfl)
  case h_l_Room___init__ => exact ql_Room___init__
  case h_c_Room___init__ => exact (Hq.allB_at k_2 13 rfl)
  case h_k_Room___init__ => exact (Hq.allB_at k_2 14 rfl)
  case h_lT => exact qlT
  case h_lA => exact qlA
  case h_d1 => exact qd1
  case h_d2 => exact qd2
  case h_d3 => exact (Hq.isRef_ok (Hq.allB_at k_2 12 rfl))
  case h_lB => exact qlB
  case h_no_Room_hears => exact (Hq.isFree_ok (Hq.allB_at k_2 15 rfl))
  case h_no_Room_size => exact (Hq.isFree_ok (Hq.allB_at k_2 16 rfl))
  case h_no_Room_first => exact (Hq.isFree_ok (Hq.allB_at k_2 17 rfl))
  case h_no_Room_rule => exact (Hq.isFree_ok (Hq.allB_at k_2 18 rfl))
  case h_no_Web_kept => exact (Hq.isFree_ok (Hq.allB_at k_2 19 rfl))
  case h_aC_NoWeb => exact (Hq.isRef_ok (Hq.allB_at k_2 20 rfl))
  case h_hd_NoWeb => exact (Hq.allB_at k_2 21 rfl)
  case h_ty_NoWeb => exact (Hq.isTy_ok (Hq.allB_at k_2 22 rfl))
  case h_ex_NoWeb => exact (Hq.isOB_ok (Hq.allB_at k_2 23 rfl))
  case h_sa_NoWeb => exact (Hq.isBlt_ok (Hq.allB_at k_2 24 rfl))
  case h_kc_NoWeb => exact (Hq.allB_at k_2 25 rfl)
  case h_qx_NoWeb => exact (Hq.allB_at k_2 26 rfl)
  case h_ox_NoWeb => exact (Hq.allB_at k_2 27 rfl)
  case h_a_NoWeb___init__ => exact (Hq.isRef_ok (Hq.allB_at k_2 28 rfl))
  case h_t_NoWeb___init__ => exact (Hq.isTy_ok (Hq.allB_at k_2 29 rfl))
  case h_l_NoWeb___init__ => exact ql_NoWeb___init__
  case h_c_NoWeb___init__ => exact (Hq.allB_at k_2 31 rfl)
  case h_k_NoWeb___init__ => exact (Hq.allB_at k_2 32 rfl)
  case h_no_NoWeb_at => exact (Hq.isFree_ok (Hq.allB_at k_2 33 rfl))
  case h_no_NoWeb_what => exact (Hq.isFree_ok (Hq.allB_at k_2 34 rfl))
  case h_ac_MOST_SIZE => exact qnac_MOST_SIZE
  case h_ac_MOST_HEARD => exact qnac_MOST_HEARD
  case h_ac_MOST_TABLE => exact qnac_MOST_TABLE
  case h_ac_MOST_ROOMS => exact qnac_MOST_ROOMS
  case h_a__law_bag => exact (Hq.isRef_ok (Hq.allB_at k_2 39 rfl))
  case h_l__law_bag => exact ql__law_bag
  case h_c__law_bag => exact (Hq.allB_at k_3 1 rfl)
  case h_k__law_bag => exact (Hq.allB_at k_3 2 rfl)
  case h_a__law_take => exact (Hq.isRef_ok (Hq.allB_at k_3 3 rfl))
  case h_l__law_take => exact ql__law_take
  case h_c__law_take => exact (Hq.allB_at k_3 5 rfl)
  case h_k__law_take => exact (Hq.allB_at k_3 6 rfl)
  case h_a__law_unlike => exact (Hq.isRef_ok (Hq.allB_at k_3 7 rfl))
  case h_l__law_unlike => exact ql__law_unlike
  case h_c__law_unlike => exact (Hq.allB_at k_3 9 rfl)
  case h_k__law_unlike => exact (Hq.allB_at k_3 10 rfl)
  case h_a__law_rooms => exact (Hq.isRef_ok (Hq.allB_at k_3 11 rfl))
  case h_l__law_rooms => exact ql__law_rooms
  case h_c__law_rooms => exact (Hq.allB_at k_3 13 rfl)
  case h_k__law_rooms => exact (Hq.allB_at k_3 14 rfl)
  case h_a__law_web => exact (Hq.isRef_ok (Hq.allB_at k_3 15 rfl))
  case h_l__law_web => exact ql__law_web
  case h_c__law_web => exact (Hq.allB_at k_3 17 rfl)
  case h_k__law_web => exact (Hq.allB_at k_3 18 rfl)
  case h_a__law_pokes => exact (Hq.isRef_ok (Hq.allB_at k_3 19 rfl))
  case h_l__law_pokes => exact ql__law_pokes
  case h_c__law_pokes => exact (Hq.allB_at k_3 21 rfl)
  case h_k__law_pokes => exact (Hq.allB_at k_3 22 rfl)
  case h_a__law_needs => exact (Hq.isRef_ok (Hq.allB_at k_3 23 rfl))
  case h_l__law_needs => exact ql__law_needs
  case h_c__law_needs => exact (Hq.allB_at k_3 25 rfl)
  case h_k__law_needs => exact (Hq.allB_at k_3 26 rfl)
  case h_a__law_whole => exact (Hq.isRef_ok (Hq.allB_at k_3 27 rfl))
  case h_l__law_whole => exact ql__law_whole
  case h_c__law_whole => exact (Hq.allB_at k_3 29 rfl)
  case h_k__law_whole => exact (Hq.allB_at k_3 30 rfl)
  case h_a__law_is_way => exact (Hq.isRef_ok (Hq.allB_at k_3 31 rfl))
  case h_l__law_is_way => exact ql__law_is_way
  case h_c__law_is_way => exact (Hq.allB_at k_3 33 rfl)
  case h_k__law_is_way => exact (Hq.allB_at k_3 34 rfl)
  case h_a__law_long => exact (Hq.isRef_ok (Hq.allB_at k_3 35 rfl))
  case h_l__law_long => exact ql__law_long
  case h_c__law_long => exact (Hq.allB_at k_3 37 rfl)
  case h_k__law_long => exact (Hq.allB_at k_3 38 rfl)
  case h_a_law => exact (Hq.isRef_ok (Hq.allB_at k_3 39 rfl))
  case h_l_law => exact ql_law
  case h_c_law => exact (Hq.allB_at k_4 1 rfl)
  case h_k_law => exact (Hq.allB_at k_4 2 rfl)
  case h_z_len => exact (Hq.isFree_ok (Hq.allB_at k_4 3 rfl))
  case h_z_abs => exact (Hq.isFree_ok (Hq.allB_at k_4 4 rfl))
  case h_z_isinstance => exact (Hq.isFree_ok (Hq.allB_at k_4 5 rfl))
  case h_z_range => exact (Hq.isFree_ok (Hq.allB_at k_4 6 rfl))
  case h_z_min => exact (Hq.isFree_ok (Hq.allB_at k_4 7 rfl))
  case h_z_max => exact (Hq.isFree_ok (Hq.allB_at k_4 8 rfl))
  case h_z_list => exact (Hq.isFree_ok (Hq.allB_at k_4 9 rfl))
  case h_z_tuple => exact (Hq.isFree_ok (Hq.allB_at k_4 10 rfl))
  case h_z_str => exact (Hq.isFree_ok (Hq.allB_at k_4 11 rfl))
  case h_z_int => exact (Hq.isFree_ok (Hq.allB_at k_4 12 rfl))
  case h_z_bool => exact (Hq.isFree_ok (Hq.allB_at k_4 13 rfl))
  case h_z_repr => exact (Hq.isFree_ok (Hq.allB_at k_4 14 rfl))
  case h_z_set => exact (Hq.isFree_ok (Hq.allB_at k_4 15 rfl))
  case h_z_all => exact (Hq.isFree_ok (Hq.allB_at k_4 16 rfl))
  case h_z_sorted => exact (Hq.isFree_ok (Hq.allB_at k_4 17 rfl))
  case h_z_enumerate => exact (Hq.isFree_ok (Hq.allB_at k_4 18 rfl))
  case h_z_zip => exact (Hq.isFree_ok (Hq.allB_at k_4 19 rfl))
  case h_z_dict => exact (Hq.isFree_ok (Hq.allB_at k_4 20 rfl))
  case h_z_ValueError => exact (Hq.isFree_ok (Hq.allB_at k_4 21 rfl))
  case h_z_TypeError => exact (Hq.isFree_ok (Hq.allB_at k_4 22 rfl))
  case h_z_IndexError => exact (Hq.isFree_ok (Hq.allB_at k_4 23 rfl))
  case h_z_any => exact (Hq.isFree_ok (Hq.allB_at k_4 24 rfl))
  case h_z_sum => exact (Hq.isFree_ok (Hq.allB_at k_4 25 rfl))
  case h_z_reversed => exact (Hq.isFree_ok (Hq.allB_at k_4 26 rfl))
  case h_z_KeyError => exact (Hq.isFree_ok (Hq.allB_at k_4 27 rfl))
  case h_z_LookupError => exact (Hq.isFree_ok (Hq.allB_at k_4 28 rfl))
  case h_z_ArithmeticError => exact (Hq.isFree_ok (Hq.allB_at k_4 29 rfl))
  case h_z_OverflowError => exact (Hq.isFree_ok (Hq.allB_at k_4 30 rfl))
  case h_z_RuntimeError => exact (Hq.isFree_ok (Hq.allB_at k_4 31 rfl))
  case h_z_ZeroDivisionError => exact (Hq.isFree_ok (Hq.allB_at k_4 32 rfl))
  case h_z_StopIteration => exact (Hq.isFree_ok (Hq.allB_at k_4 33 rfl))
end Wd.Wh
open PySem PySem.W PySem.Calls PyProof.Rows in
set_option maxRecDepth 100000 in
set_option maxHeartbeats 0 in
theorem PySem.Challenge.cw_seenstands_k11_ways_down_holds : PySem.Challenge.rw_seenstands_k11_ways_down.Holds := by
  w_on; o_law
  refine HandSHeadRun.head_any (r := OpenLaw.row PySem.Challenge.rw_seenstands_k11_ways_down) (q := Wd.Wh.qv) (H := Wd.Wh.hk) (ob := Wd.Wh.ob) (M := 40000) (loose := Wd.Wh.names) (d := HandSHeadRun.topDef (OpenLaw.row PySem.Challenge.rw_seenstands_k11_ways_down).prog 35) (kwd := []) Wd.Wh.ob_eq
    (by kernel_rfl) (fun s => by kernel_rfl) Wd.Wh.run (by kernel_rfl) (by kernel_rfl) (by kernel_rfl) (by rfl) (by first | assumption | decide +kernel) (by decide +kernel) ⟨rfl, rfl, rfl, rfl, rfl, by decide +kernel⟩ ?hw ?hc
  case hw => w_witness2
  case hc =>
    refine Hq.walk_ofH (l := PySem.Challenge.rw_seenstands_k11_ways_down) (k := 21) (x := "_law_script") rfl (by kernel_rfl) ⟨rfl, by decide, by decide⟩ ?F
    intro w mg fa h Y G hmg0
    obtain ⟨K, KX, c⟩ := Y
    have hnm : (HandSHeadRun.topDef (OpenLaw.row PySem.Challenge.rw_seenstands_k11_ways_down).prog 35).name = ("law" : PySem.Str) := by kernel_rfl
    rw [hnm] at hmg0 ⊢
    obtain ⟨TL, h1, h2⟩ := Wd.Wh.facts (P := (PySem.Challenge.rw_seenstands_k11_ways_down).prog) (w := w) KX G hmg0 c
    exact ⟨TL, K, KX, h1, h2⟩
