import PyProof.Rows.All
import Wide.All
import OpenK.AllK
import Wide.FinOn
import HandS.Head2
import HandS.HeadHook2
import HandS.HeadNt
import HandS.HeadEnd
import PySem.Challenge.RW_rounddown_k61_fewest_exchanges_by_levels
import HandS.ForMost
import HandS.Exc
import HandS.Deep
import HandS.TupAny
import HandS.Style
import HandS.Wide
import HandS.Iter
import HandS.ExcOwn
import KE.KSortKeySt
import KE.KSortedM
import HandS.Property
import HandS.MakeKwOnly
import HandS.Star
import HandS.IsInst
import HandS.ExcInit
import HandS.TryOnly
import HandS.ClsMeth
import HandS.Nested
import KE.KSuper
import HandS.Codes
import PyProof.InstNe
import HandS.FStr
import HandS.RaiseMore
import HandS.Flow
import HandS.ExcIs
import HandS.ExcField
import KE.KExcIs
import KE.GoesEnum
import KE.KOpsOwn
import HandS.NoneIn
import HandS.EndTab
import KE.KCallOwn
import PyProof.FactsLen
import PyProof.Calls
import OpenK.KMeth
import HandS.DictComp
import HandS.More
import HandS.Conv
import KE.DatumOrd
import HandS.Text
import HandS.CallSlots
import KE.KIntText
set_option Elab.async false
set_option linter.all false
set_option maxRecDepth 100000
/-! Hs0: a small head: what the walk leans on is decided by one look at the heap behind the top. -/
namespace Hs
open PySem L2 PySem.Spec PyProof.Rows He
abbrev Frag := PySem.W.Frag
/-! ### what the module's names reach: by a mask of addresses -/
def goA (g : Addr → Option Obj) : Nat → List Addr → Nat → List Addr → List Addr
  | 0, _, _, acc => acc
  | n + 1, [], m, acc => acc
  | n + 1, a :: r, m, acc => match Nat.testBit m a with
    | true => goA g n r m acc
    | false => match g a with
      | some o => goA g n (refsD o ++ r) (m ||| (1 <<< a)) (a :: acc)
      | none => goA g n r (m ||| (1 <<< a)) acc
/-- all that main reaches -/
def reach (g : Addr → Option Obj) (n : Nat) : List Addr := (goA g n [mainGlobals] 0 []).reverse ++ [cStatics]
/-! ### functions -/
abbrev FnV : Type := Option (Str × Str × Arguments × FuncBody × Scope × Addr × List Str × Addr)
def fnV (K : Frag) (a : Addr) : FnV := match K.lookup a with
  | some ⟨_, _, .func fd, _⟩ => some (fd.name, fd.qualname, fd.params, fd.body, fd.scope, fd.globals, fd.closure.map (·.1), fd.builtins)
  | _ => none
structure Df where
  at_ : Frag → Addr
  name : Str
  qual : Str
  st : Stmt
  cl : List Str := []
  df : Nat := 0
def Df.val (d : Df) : FnV := some (d.name, d.qual, defArgs d.st, .stmts (defBody d.st), defScope d.st, mainGlobals, d.cl, builtinsNs)
theorem codeRef {K : Frag} {cd : Value} {q : Str} (h : PySem.W.codeIn K cd q = true) : ∃ c, cd = .ref c := by
  cases cd with
  | ref c => exact ⟨c, rfl⟩
  | _ => cases h
def noneB : Value → Bool
  | .none => true
  | _ => false
theorem noneB_ok {v : Value} (h : noneB v = true) : v = .none := by
  cases v with
  | none => rfl
  | _ => cases h
def seqB (K : Frag) (k : Nat) : Value → Bool
  | .ref T => (match K.lookup T with
    | some o => (match o.data with
      | .seq its _ => decide (its.size = k)
      | _ => false)
    | _ => false)
  | _ => false
theorem seqB_ok {K : Frag} {v : Value} {k : Nat} (h : seqB K k v = true) : ∃ T o its m, v = .ref T ∧ K.lookup T = some o ∧ o.data = .seq its m ∧ its.size = k := by
  cases v with
  | ref T =>
    unfold seqB at h
    dsimp only at h
    cases e : K.lookup T with
    | none =>
      rw [e] at h
      cases h
    | some o =>
      rw [e] at h
      dsimp only at h
      cases e2 : o.data with
      | seq its m =>
        rw [e2] at h
        exact ⟨T, o, its, m, rfl, e, e2, of_decide_eq_true h⟩
      | _ =>
        rw [e2] at h
        cases h
  | _ => cases h
def Df.ok (K : Frag) (d : Df) : Bool := match K.lookup (d.at_ K) with
  | some ⟨_, _, .func fd, _⟩ => PySem.W.codeIn K fd.code d.qual && (match d.df with | 0 => noneB fd.defaults | k + 1 => seqB K (k + 1) fd.defaults)
  | _ => false
def ccOf (K : Frag) (f : Addr) : Addr := match K.lookup f with
  | some ⟨_, _, .func fd, _⟩ => (match fd.closure with
    | (_, a) :: _ => a
    | [] => 0)
  | _ => 0
theorem Df.get {K : Frag} {d : Df} (e : fnV K (d.at_ K) = d.val) (c : d.ok K = true) (h : d.cl = []) (hd : d.df = 0) :
    ∃ oc od osl kV dc pm an cd ct, K.lookup (d.at_ K) = some ⟨oc, od, .func (PySem.W.fnOf d.name d.qual (defArgs d.st) (defBody d.st) (defScope d.st) .none kV dc pm an cd ct), osl⟩ ∧ PySem.W.codeIn K cd d.qual = true := by
  unfold fnV at e
  unfold Df.ok at c
  cases q : K.lookup (d.at_ K) with
  | none =>
    rw [q] at c
    cases c
  | some o =>
    obtain ⟨oc, od, dt, osl⟩ := o
    rw [q] at c e
    cases dt with
    | func fd =>
      obtain ⟨n1, n2, n3, n4, n5, n6, n7, n8, n9, n10, n11, n12, n13, n14, n15⟩ := fd
      have e2 : (some (n1, n2, n3, n4, n5, n6, n7.map (·.1), n15) : FnV) = some (d.name, d.qual, defArgs d.st, .stmts (defBody d.st), defScope d.st, mainGlobals, d.cl, builtinsNs) := e
      simp only [Option.some.injEq, Prod.mk.injEq] at e2
      obtain ⟨h1, h2, h3, h4, h5, h6, h7, h8⟩ := e2
      obtain ⟨k1, k2⟩ := ba c
      rw [hd] at k2
      rw [h] at h7
      have h9 : n7 = [] := List.map_eq_nil_iff.mp h7
      have h10 : n8 = Value.none := noneB_ok k2
      subst h1 h2 h3 h4 h5 h6 h8 h9 h10
      exact ⟨oc, od, osl, n9, n10, n11, n12, n13, n14, rfl, k1⟩
    | _ => cases c
theorem Df.getD {K : Frag} {d : Df} (e : fnV K (d.at_ K) = d.val) (c : d.ok K = true) (h : d.cl = []) {k : Nat} (hd : d.df = k + 1) :
    ∃ oc od osl kV dc pm an cd ct T oT its mT, K.lookup (d.at_ K) = some ⟨oc, od, .func (PySem.W.fnOf d.name d.qual (defArgs d.st) (defBody d.st) (defScope d.st) (.ref T) kV dc pm an cd ct), osl⟩ ∧ PySem.W.codeIn K cd d.qual = true ∧ K.lookup T = some oT ∧ oT.data = .seq its mT ∧ its.size = k + 1 := by
  unfold fnV at e
  unfold Df.ok at c
  cases q : K.lookup (d.at_ K) with
  | none =>
    rw [q] at c
    cases c
  | some o =>
    obtain ⟨oc, od, dt, osl⟩ := o
    rw [q] at c e
    cases dt with
    | func fd =>
      obtain ⟨n1, n2, n3, n4, n5, n6, n7, n8, n9, n10, n11, n12, n13, n14, n15⟩ := fd
      have e2 : (some (n1, n2, n3, n4, n5, n6, n7.map (·.1), n15) : FnV) = some (d.name, d.qual, defArgs d.st, .stmts (defBody d.st), defScope d.st, mainGlobals, d.cl, builtinsNs) := e
      simp only [Option.some.injEq, Prod.mk.injEq] at e2
      obtain ⟨h1, h2, h3, h4, h5, h6, h7, h8⟩ := e2
      obtain ⟨k1, k2⟩ := ba c
      rw [hd] at k2
      rw [h] at h7
      have h9 : n7 = [] := List.map_eq_nil_iff.mp h7
      obtain ⟨T, oT, its, mT, h10, hl, ho, hz⟩ := seqB_ok (show seqB K (k + 1) n8 = true from k2)
      subst h1 h2 h3 h4 h5 h6 h8 h9 h10
      exact ⟨oc, od, osl, n9, n10, n11, n12, n13, n14, T, oT, its, mT, rfl, k1, hl, ho, hz⟩
    | _ => cases c
theorem Df.getX {K : Frag} {d : Df} {x : Str} (e : fnV K (d.at_ K) = d.val) (c : d.ok K = true) (h : d.cl = [x]) (hd : d.df = 0) :
    ∃ oc od osl kV dc pm an cda ct, K.lookup (d.at_ K) = some ⟨oc, od, .func (PySem.W.fnX d.name d.qual (defArgs d.st) (defBody d.st) (defScope d.st) [(x, ccOf K (d.at_ K))] .none kV dc pm an (.ref cda) ct), osl⟩ ∧ PySem.W.codeIn K (.ref cda) d.qual = true := by
  unfold fnV at e
  unfold Df.ok at c
  unfold ccOf
  cases q : K.lookup (d.at_ K) with
  | none =>
    rw [q] at c
    cases c
  | some o =>
    obtain ⟨oc, od, dt, osl⟩ := o
    rw [q] at c e
    cases dt with
    | func fd =>
      obtain ⟨n1, n2, n3, n4, n5, n6, n7, n8, n9, n10, n11, n12, n13, n14, n15⟩ := fd
      have e2 : (some (n1, n2, n3, n4, n5, n6, n7.map (·.1), n15) : FnV) = some (d.name, d.qual, defArgs d.st, .stmts (defBody d.st), defScope d.st, mainGlobals, d.cl, builtinsNs) := e
      simp only [Option.some.injEq, Prod.mk.injEq] at e2
      obtain ⟨h1, h2, h3, h4, h5, h6, h7, h8⟩ := e2
      obtain ⟨k1, k2⟩ := ba c
      rw [hd] at k2
      rw [h] at h7
      obtain ⟨z, hz⟩ : ∃ z, n7 = [(x, z)] := by
        cases n7 with
        | nil => cases h7
        | cons p r =>
          obtain ⟨p1, p2⟩ := p
          cases r with
          | nil =>
            cases h7
            exact ⟨p2, rfl⟩
          | cons p' r' => cases h7
      have h10 : n8 = Value.none := noneB_ok k2
      obtain ⟨cda, hc⟩ := codeRef k1
      have h13 : n13 = .ref cda := hc
      subst h1 h2 h3 h4 h5 h6 h8 hz h10 h13
      exact ⟨oc, od, osl, n9, n10, n11, n12, cda, n14, rfl, k1⟩
    | _ => cases c
/-! ### the Hook -/
abbrev Al : Type := Bool × List FnV
def obsK (ex : List (Frag → Bool)) (fn : List Df) (K : Frag) : Al := ((ex.all fun f => f K) && fn.all fun d => d.ok K, fn.map fun d => fnV K (d.at_ K))
def valK (fn : List Df) : Al := (true, fn.map Df.val)
def Says (ex : List (Frag → Bool)) (fn : List Df) (K : Frag) : Prop := obsK ex fn K = valK fn
def obsG (n : Nat) (ex : List (Frag → Bool)) (fn : List Df) (g : Addr → Option Obj) : Al := obsK ex fn (frG g (reach g n))
def hook (n : Nat) (ex : List (Frag → Bool)) (fn : List Df) : PySem.W.Hook where
  α := Al
  obs := fun s => obsG n ex fn s.heap.get?
  val := fun _ => valK fn
  says := fun _ h => ∃ K : Frag, K.In h ∧ Says ex fn K
  of := fun _ _ e => ⟨_, frG_in, e⟩
  keeps := fun _ _ _ ⟨K, hK, c⟩ k => ⟨K, PySem.W.Frag.In.keeps hK k, c⟩
theorem obsG_eq {n : Nat} {ex : List (Frag → Bool)} {fn : List Df} {s : PySem.W.SharedT} : obsG n ex fn (HandSHeadRun.getT s) = (hook n ex fn).obs s.abs := by
  have e : HandSHeadRun.getT s = s.abs.heap.get? := funext (HandSHeadRun.getT_eq s)
  rw [e] <;> rfl
section
variable {ex : List (Frag → Bool)} {fn : List Df} {K : Frag}
theorem Says.fact (c : Says ex fn K) (i : Nat) {f : Frag → Bool} (h : ex[i]? = some f := by rfl) : f K = true := by
  have c1 := (ba (show ((ex.all fun f => f K) && fn.all fun d => d.ok K) = true from congrArg (fun z : Al => z.1) c)).1
  exact List.all_eq_true.mp c1 f (List.mem_of_getElem? h)
theorem Says.def_ (c : Says ex fn K) (i : Nat) {d : Df} (h : fn[i]? = some d := by rfl) : fnV K (d.at_ K) = d.val ∧ d.ok K = true := by
  have c2 := (ba (show ((ex.all fun f => f K) && fn.all fun d => d.ok K) = true from congrArg (fun z : Al => z.1) c)).2
  have e : fn.map (fun d => fnV K (d.at_ K)) = fn.map Df.val := congrArg (fun z : Al => z.2) c
  have e2 : (fn.map fun d => fnV K (d.at_ K))[i]? = (fn.map Df.val)[i]? := by rw [e]
  rw [List.getElem?_map, List.getElem?_map, h] at e2
  exact ⟨Option.some.inj e2, List.all_eq_true.mp c2 d (List.mem_of_getElem? h)⟩
end
/-! ### facts with an open place -/
def pf (K : Frag) (p : Addr) : Addr := match PySem.W.recIn K p "property" with
  | some (.ref f :: _) => f
  | _ => 0
def pfB (K : Frag) (p : Addr) : Bool := match PySem.W.recIn K p "property" with
  | some (.ref _ :: _) => true
  | _ => false
theorem pf_ok {K : Frag} {p : Addr} (h : pfB K p = true) : ∃ z, PySem.W.recIn K p "property" = some (.ref (pf K p) :: z) := by
  unfold pfB at h
  unfold pf
  split at h
  · rename_i f z e
    exact ⟨z, by rw [e]⟩
  · cases h
def intO (i : Int) : Option (Option Value) → Bool
  | some (some (.int j _)) => decide (j = i)
  | _ => false
theorem intO_ok {i : Int} {o : Option (Option Value)} (h : intO i o = true) : ∃ t, o = some (some (.int i t)) := by
  unfold intO at h
  split at h
  · rename_i j t
    have e : j = i := of_decide_eq_true h
    subst e
    exact ⟨t, rfl⟩
  · cases h
def strO (x : Str) : Option (Option Value) → Bool
  | some (some (.str y _)) => decide (y = x)
  | _ => false
theorem strO_ok {x : Str} {o : Option (Option Value)} (h : strO x o = true) : ∃ t, o = some (some (.str x t)) := by
  unfold strO at h
  split at h
  · rename_i y t
    have e : y = x := of_decide_eq_true h
    subst e
    exact ⟨t, rfl⟩
  · cases h
def catO (i : Int) : Option PySem.W.CFound → Bool
  | some (.val (.int j _)) => decide (j = i)
  | _ => false
theorem catO_ok {i : Int} {o : Option PySem.W.CFound} (h : catO i o = true) : ∃ t, o = some (.val (.int i t)) := by
  unfold catO at h
  split at h
  · rename_i j t
    have e : j = i := of_decide_eq_true h
    subst e
    exact ⟨t, rfl⟩
  · cases h
/-- a closure's cell that holds the class at D -/
def cellB (K : Frag) (cc D : Addr) : Bool := match K.lookup cc with
  | some ⟨_, _, .cell (some v), _⟩ => decide (v = .ref D)
  | _ => false
theorem cellB_ok {K : Frag} {cc D : Addr} (h : cellB K cc D = true) : ∃ oc od sl, K.lookup cc = some ⟨oc, od, .cell (some (.ref D)), sl⟩ := by
  unfold cellB at h
  split at h
  · rename_i oc od v sl e
    have e2 : v = .ref D := of_decide_eq_true h
    subst e2
    exact ⟨oc, od, sl, e⟩
  · cases h
/-- a function's code stands in this file -/
def fileB (K : Frag) (f : Addr) (x : Str) : Bool := match K.lookup f with
  | some ⟨_, _, .func fd, _⟩ => (match fd.code with
    | .ref c => (match K.lookup c with
      | some ⟨_, _, .fields vs, _⟩ => (match (vs[2]? : Option Value) with
        | some (.str y _) => x == y
        | _ => false)
      | _ => false)
    | _ => false)
  | _ => false
theorem fileB_ok {K : Frag} {f c : Addr} {x : Str} {oc : Value} {od : Option Addr} {fd : FuncData} {osl : Array (Option Value)} (l : K.lookup f = some ⟨oc, od, .func fd, osl⟩) (e : fd.code = .ref c) (h : fileB K f x = true) :
    ∃ oc od vs sl y t, K.lookup c = some ⟨oc, od, .fields vs, sl⟩ ∧ vs[2]? = some (.str y t) ∧ (x == y) = true := by
  unfold fileB at h
  rw [l] at h
  have h1 : (match fd.code with
    | .ref c => (match K.lookup c with
      | some ⟨_, _, .fields vs, _⟩ => (match (vs[2]? : Option Value) with
        | some (.str y _) => x == y
        | _ => false)
      | _ => false)
    | _ => false) = true := h
  rw [e] at h1
  have h2 : (match K.lookup c with
      | some ⟨_, _, .fields vs, _⟩ => (match (vs[2]? : Option Value) with
        | some (.str y _) => x == y
        | _ => false)
      | _ => false) = true := h1
  split at h2
  · rename_i vs sl e2
    split at h2
    · rename_i y t e3
      exact ⟨_, _, vs, sl, y, t, e2, e3, h2⟩
    · cases h2
  · cases h2
end Hs
namespace Dn
open PySem
/-- the i-th statement of a class -/
def clsDef (st : Stmt) (i : Nat) : Stmt := match st with
  | .ClassDef _ _ _ body _ _ _ _ _ _ _ => body.getD i (.Pass ⟨0, 0, 0, 0⟩)
  | _ => .Pass ⟨0, 0, 0, 0⟩
end Dn
/-! Ht: a module's tuple of texts. -/
/-! Hk: a def's keyword-only defaults in the heap. -/
namespace Hs
open PySem L2 PySem.Spec PyProof.Rows He
def kvOf (K : Frag) (f : Addr) : Value := match K.lookup f with
  | some ⟨_, _, .func fd, _⟩ => fd.kwdefaults
  | _ => .none
def dvB : V → Value → Bool
  | .int i, .int j _ => decide (j = i)
  | .str x, .str y _ => decide (y = x)
  | .non, .none => true
  | _, _ => false
theorem dvB_ok : ∀ {v : V} {u : Value}, dvB v u = true → RelV v u
  | .int i, .int j t, h => by
    have e : j = i := of_decide_eq_true h
    subst e
    exact ⟨t, rfl⟩
  | .str x, .str y t, h => by
    have e : y = x := of_decide_eq_true h
    subst e
    exact ⟨t, rfl⟩
  | .non, .none, _ => rfl
def kwdB (K : Frag) (kws : List (Str × V)) : Value → Bool
  | .ref D => kws.all fun q => match PySem.W.nsIn K D q.1 with
    | some (some u) => dvB q.2 u
    | _ => false
  | _ => false
theorem kwdB_ok {K : Frag} {kws : List (Str × V)} {kV : Value} (h : kwdB K kws kV = true) : ∃ D, kV = .ref D ∧ ∀ q ∈ kws, ∃ u, PySem.W.nsIn K D q.1 = some (some u) ∧ RelV q.2 u := by
  unfold kwdB at h
  split at h
  · rename_i D
    refine ⟨D, rfl, fun q hq => ?_⟩
    have hq := List.all_eq_true.mp h q hq
    split at hq
    · rename_i u e
      exact ⟨u, e, dvB_ok hq⟩
    · cases hq
  · cases h
theorem kv_at {K : Frag} {f : Addr} {oc : Value} {od : Option Addr} {fd : FuncData} {sl : Array (Option Value)} (l : K.lookup f = some ⟨oc, od, .func fd, sl⟩) : kvOf K f = fd.kwdefaults := by
  unfold kvOf
  rw [l]
theorem kwd_of {K : Frag} {f : Addr} {oc : Value} {od : Option Addr} {fd : FuncData} {sl : Array (Option Value)} {kws : List (Str × V)} (l : K.lookup f = some ⟨oc, od, .func fd, sl⟩) (h : kwdB K kws (kvOf K f) = true) : kwdB K kws fd.kwdefaults = true := by
  rw [kv_at l] at h
  exact h
end Hs
namespace Lw
open PySem Dn PySem.Spec PyProof.Rows
open L2 hiding bin
def top (i : Nat) : Stmt := PySem.Challenge.pw_rounddown_k61_fewest_exchanges_by_levels.main.body.getD i (.Pass ⟨0, 0, 0, 0⟩)
abbrev s_law_pen : Stmt := top 53
abbrev s_Market_len : Stmt := clsDef (top 51) 4
abbrev s_law_draw : Stmt := top 54
abbrev s_law_pick : Stmt := top 55
abbrev s_law_names : Stmt := top 57
abbrev s_law_office : Stmt := top 58
abbrev s_Market_contains : Stmt := clsDef (top 51) 5
abbrev s_Market_getitem : Stmt := clsDef (top 51) 7
abbrev s_law_ring : Stmt := top 59
abbrev s_law_shuffled : Stmt := top 56
abbrev s_law_raw : Stmt := top 60
abbrev s_is_list : Stmt := top 21
abbrev s_is_name : Stmt := top 20
abbrev s_need_name : Stmt := top 24
abbrev s_need_currencies : Stmt := top 45
abbrev s_Office_goal : Stmt := clsDef (top 39) 9
abbrev s_Office_source : Stmt := clsDef (top 39) 8
abbrev s_need_ends : Stmt := top 46
abbrev s_need_offices : Stmt := top 47
abbrev s_Market_init : Stmt := clsDef (top 51) 2
abbrev s_is_integer : Stmt := top 19
abbrev s_is_rate : Stmt := top 38
abbrev s_need_integer : Stmt := top 25
abbrev s_Office_init : Stmt := clsDef (top 39) 4
abbrev s_CappedOffice_init : Stmt := clsDef (top 40) 1
abbrev s_law_one : Stmt := top 61
abbrev s_law_made : Stmt := top 62
abbrev s_law_amount : Stmt := top 64
abbrev s_law_goal : Stmt := top 68
abbrev s_law_first : Stmt := top 66
abbrev s_law_result : Stmt := top 63
abbrev s_law_level : Stmt := top 65
abbrev s_law_levels : Stmt := top 67
abbrev s_is_amount : Stmt := top 22
abbrev s_is_pair : Stmt := top 23
abbrev s_Market_currencies : Stmt := clsDef (top 51) 9
abbrev s_need_currency : Stmt := top 27
abbrev s_need_holding : Stmt := top 28
abbrev s_need_amount : Stmt := top 26
abbrev s_need_goal : Stmt := top 34
abbrev s_first_level : Stmt := top 31
abbrev s_Market_offices : Stmt := clsDef (top 51) 10
abbrev s_Office_result : Stmt := clsDef (top 39) 17
abbrev s_CappedOffice_result : Stmt := clsDef (top 40) 4
abbrev s_level_after : Stmt := top 32
abbrev s_levels_to : Stmt := top 33
abbrev s_fewest : Stmt := top 35
abbrev s_law : Stmt := top 69
abbrev R : PySem.W.OpenRow := PySem.W.OpenLaw.row PySem.Challenge.rw_rounddown_k61_fewest_exchanges_by_levels
def nm0 : List Str := ["_wall", "InvalidName", "InvalidRate", "InvalidNumber", "InvalidOffice", "InvalidMarket", "InvalidHolding", "InvalidText", "UnknownCurrency", "UnknownOffice", "DuplicateName", "TooMany", "Closed", "COINS", "FEWEST", "LETTERS", "ALPHABET", "is_integer", "is_name", "is_list"]
def nm1 : List Str := ["is_amount", "is_pair", "need_name", "need_integer", "need_amount", "need_currency", "need_holding", "NEVER", "first_level", "level_after", "levels_to", "need_goal", "fewest", "DIGITS", "is_rate", "Office", "CappedOffice", "number_in", "rate_in", "office_in"]
def nm2 : List Str := ["need_currencies", "need_ends", "need_offices", "market_parts", "currency_follows", "office_follows", "Market", "_law_pen", "_law_draw", "_law_pick", "_law_shuffled", "_law_names", "_law_office", "_law_ring", "_law_raw", "_law_one", "_law_made", "_law_result", "_law_amount", "_law_level"]
def nm3 : List Str := ["_law_first", "_law_levels", "_law_goal"]
def nms : List Str := nm0 ++ nm1 ++ nm2 ++ nm3
def ex : List (Hs.Frag → Bool) := [
  fun K => Hs.cellB K (Hs.ccOf K (He.ma K (He.ga K "CappedOffice") "__init__")) (He.ga K "CappedOffice"),
  fun K => Hs.fileB K (He.ma K (He.ga K "CappedOffice") "__init__") (PySem.Challenge.pw_rounddown_k61_fewest_exchanges_by_levels.main.file : Str),
  fun K => Hs.cellB K (Hs.ccOf K (He.ma K (He.ga K "CappedOffice") "result")) (He.ga K "CappedOffice"),
  fun K => Hs.fileB K (He.ma K (He.ga K "CappedOffice") "result") (PySem.Challenge.pw_rounddown_k61_fewest_exchanges_by_levels.main.file : Str),
  fun K => decide (PySem.W.nsIn K mainGlobals "_law_pen" = some (some (.ref (He.ga K "_law_pen")))),
  fun K => decide (PySem.W.nsIn K mainGlobals "Market" = some (some (.ref (He.ga K "Market")))),
  fun K => decide (PySem.W.nsIn K mainGlobals "_law_draw" = some (some (.ref (He.ga K "_law_draw")))),
  fun K => decide (PySem.W.nsIn K mainGlobals "_law_pick" = some (some (.ref (He.ga K "_law_pick")))),
  fun K => decide (PySem.W.nsIn K mainGlobals "_law_names" = some (some (.ref (He.ga K "_law_names")))),
  fun K => decide (PySem.W.nsIn K mainGlobals "_law_office" = some (some (.ref (He.ga K "_law_office")))),
  fun K => decide (PySem.W.nsIn K mainGlobals "_law_ring" = some (some (.ref (He.ga K "_law_ring")))),
  fun K => decide (PySem.W.nsIn K mainGlobals "_law_shuffled" = some (some (.ref (He.ga K "_law_shuffled")))),
  fun K => decide (PySem.W.nsIn K mainGlobals "_law_raw" = some (some (.ref (He.ga K "_law_raw")))),
  fun K => decide (PySem.W.nsIn K mainGlobals "is_list" = some (some (.ref (He.ga K "is_list")))),
  fun K => decide (PySem.W.nsIn K mainGlobals "is_name" = some (some (.ref (He.ga K "is_name")))),
  fun K => decide (PySem.W.nsIn K mainGlobals "need_name" = some (some (.ref (He.ga K "need_name")))),
  fun K => decide (PySem.W.nsIn K mainGlobals "need_currencies" = some (some (.ref (He.ga K "need_currencies")))),
  fun K => decide (PySem.W.nsIn K mainGlobals "Office" = some (some (.ref (He.ga K "Office")))),
  fun K => decide (PySem.W.nsIn K mainGlobals "CappedOffice" = some (some (.ref (He.ga K "CappedOffice")))),
  fun K => decide (PySem.W.nsIn K mainGlobals "need_ends" = some (some (.ref (He.ga K "need_ends")))),
  fun K => decide (PySem.W.nsIn K mainGlobals "need_offices" = some (some (.ref (He.ga K "need_offices")))),
  fun K => decide (PySem.W.nsIn K mainGlobals "is_integer" = some (some (.ref (He.ga K "is_integer")))),
  fun K => decide (PySem.W.nsIn K mainGlobals "is_rate" = some (some (.ref (He.ga K "is_rate")))),
  fun K => decide (PySem.W.nsIn K mainGlobals "need_integer" = some (some (.ref (He.ga K "need_integer")))),
  fun K => decide (PySem.W.nsIn K mainGlobals "_law_one" = some (some (.ref (He.ga K "_law_one")))),
  fun K => decide (PySem.W.nsIn K mainGlobals "_law_made" = some (some (.ref (He.ga K "_law_made")))),
  fun K => decide (PySem.W.nsIn K mainGlobals "_law_amount" = some (some (.ref (He.ga K "_law_amount")))),
  fun K => decide (PySem.W.nsIn K mainGlobals "_law_goal" = some (some (.ref (He.ga K "_law_goal")))),
  fun K => decide (PySem.W.nsIn K mainGlobals "_law_first" = some (some (.ref (He.ga K "_law_first")))),
  fun K => decide (PySem.W.nsIn K mainGlobals "_law_result" = some (some (.ref (He.ga K "_law_result")))),
  fun K => decide (PySem.W.nsIn K mainGlobals "_law_level" = some (some (.ref (He.ga K "_law_level")))),
  fun K => decide (PySem.W.nsIn K mainGlobals "_law_levels" = some (some (.ref (He.ga K "_law_levels")))),
  fun K => decide (PySem.W.nsIn K mainGlobals "is_amount" = some (some (.ref (He.ga K "is_amount")))),
  fun K => decide (PySem.W.nsIn K mainGlobals "is_pair" = some (some (.ref (He.ga K "is_pair")))),
  fun K => decide (PySem.W.nsIn K mainGlobals "need_currency" = some (some (.ref (He.ga K "need_currency")))),
  fun K => decide (PySem.W.nsIn K mainGlobals "need_holding" = some (some (.ref (He.ga K "need_holding")))),
  fun K => decide (PySem.W.nsIn K mainGlobals "need_amount" = some (some (.ref (He.ga K "need_amount")))),
  fun K => decide (PySem.W.nsIn K mainGlobals "need_goal" = some (some (.ref (He.ga K "need_goal")))),
  fun K => decide (PySem.W.nsIn K mainGlobals "first_level" = some (some (.ref (He.ga K "first_level")))),
  fun K => decide (PySem.W.nsIn K mainGlobals "level_after" = some (some (.ref (He.ga K "level_after")))),
  fun K => decide (PySem.W.nsIn K mainGlobals "levels_to" = some (some (.ref (He.ga K "levels_to")))),
  fun K => decide (PySem.W.nsIn K mainGlobals "fewest" = some (some (.ref (He.ga K "fewest")))),
  fun K => decide (PySem.W.nsIn K mainGlobals "law" = some (some (.ref (He.ga K "law")))),
  fun K => decide (PySem.W.findIn K (.ref (He.ga K "Market")) "__len__" = some (some (.ref (He.ma K (He.ga K "Market") "__len__")))),
  fun K => decide (PySem.W.findIn K (.ref (He.ga K "Market")) "__contains__" = some (some (.ref (He.ma K (He.ga K "Market") "__contains__")))),
  fun K => decide (PySem.W.findIn K (.ref (He.ga K "Market")) "__getitem__" = some (some (.ref (He.ma K (He.ga K "Market") "__getitem__")))),
  fun K => decide (PySem.W.findIn K (.ref (He.ga K "CappedOffice")) "goal" = some (some (.ref (He.ma K (He.ga K "Office") "goal")))),
  fun K => decide (PySem.W.findIn K (.ref (He.ga K "Office")) "goal" = some (some (.ref (He.ma K (He.ga K "Office") "goal")))),
  fun K => decide (PySem.W.findIn K (.ref (He.ga K "CappedOffice")) "source" = some (some (.ref (He.ma K (He.ga K "Office") "source")))),
  fun K => decide (PySem.W.findIn K (.ref (He.ga K "Office")) "source" = some (some (.ref (He.ma K (He.ga K "Office") "source")))),
  fun K => decide (PySem.W.findIn K (.ref (He.ga K "Market")) "__init__" = some (some (.ref (He.ma K (He.ga K "Market") "__init__")))),
  fun K => decide (PySem.W.findIn K (.ref (He.ga K "Office")) "__init__" = some (some (.ref (He.ma K (He.ga K "Office") "__init__")))),
  fun K => decide (PySem.W.findIn K (.ref (He.ga K "CappedOffice")) "__init__" = some (some (.ref (He.ma K (He.ga K "CappedOffice") "__init__")))),
  fun K => decide (PySem.W.findIn K (.ref (He.ga K "Market")) "currencies" = some (some (.ref (He.ma K (He.ga K "Market") "currencies")))),
  fun K => decide (PySem.W.findIn K (.ref (He.ga K "Market")) "offices" = some (some (.ref (He.ma K (He.ga K "Market") "offices")))),
  fun K => decide (PySem.W.findIn K (.ref (He.ga K "CappedOffice")) "result" = some (some (.ref (He.ma K (He.ga K "CappedOffice") "result")))),
  fun K => decide (PySem.W.findIn K (.ref (He.ga K "Office")) "result" = some (some (.ref (He.ma K (He.ga K "Office") "result")))),
  fun K => Hs.pfB K (He.ma K (He.ga K "Office") "goal"),
  fun K => Hs.pfB K (He.ma K (He.ga K "Office") "source"),
  fun K => Hs.pfB K (He.ma K (He.ga K "Market") "currencies"),
  fun K => Hs.pfB K (He.ma K (He.ga K "Market") "offices"),
  fun K => decide (PySem.W.nsIn K mainGlobals "list" = some none),
  fun K => PySem.W.keepIn K (.ref (He.ga K "_law_pen")),
  fun K => PySem.W.plainGet K (He.ga K "Market") Str.empty,
  fun K => PySem.W.hasDictIn K (He.ga K "Market"),
  fun K => PySem.W.plainOver K (He.ga K "Market"),
  fun K => decide (PySem.W.findIn K (.ref (He.ga K "Market")) "__setattr__" = some (some (.builtin "object.__setattr__"))),
  fun K => decide (PySem.W.findIn K (.ref (He.ga K "Market")) "own_offices" = some none),
  fun K => decide (PySem.W.nsIn K mainGlobals "len" = some none),
  fun K => PySem.W.isFn K (.ref (He.ma K (He.ga K "Market") "__len__")),
  fun K => PySem.W.keepIn K (.ref (He.ma K (He.ga K "Market") "__len__")),
  fun K => decide (PySem.W.nsIn K mainGlobals "min" = some none),
  fun K => decide (PySem.W.nsIn K mainGlobals "range" = some none),
  fun K => decide (PySem.W.nsIn K mainGlobals "int" = some none),
  fun K => decide (PySem.W.nsIn K mainGlobals "abs" = some none),
  fun K => PySem.W.keepIn K (.ref (He.ga K "_law_draw")),
  fun K => PySem.W.keepIn K (.ref (He.ga K "_law_pick")),
  fun K => PySem.W.keepIn K (.ref (He.ga K "_law_names")),
  fun K => PySem.W.keepIn K (.ref (He.ga K "_law_office")),
  fun K => decide (PySem.W.findIn K (.ref (He.ga K "Market")) "by_name" = some none),
  fun K => decide (PySem.W.nsIn K mainGlobals "isinstance" = some none),
  fun K => decide (PySem.W.nsIn K mainGlobals "str" = some none),
  fun K => PySem.W.isFn K (.ref (He.ma K (He.ga K "Market") "__contains__")),
  fun K => PySem.W.keepIn K (.ref (He.ma K (He.ga K "Market") "__contains__")),
  fun K => PySem.W.isFn K (.ref (He.ma K (He.ga K "Market") "__getitem__")),
  fun K => PySem.W.fnIn K (He.ma K (He.ga K "Market") "__getitem__"),
  fun K => PySem.W.keepIn K (.ref (He.ma K (He.ga K "Market") "__getitem__")),
  fun K => PySem.W.keepIn K (.ref (He.ga K "_law_ring")),
  fun K => PySem.W.keepIn K (.ref (He.ga K "_law_shuffled")),
  fun K => decide (PySem.W.nsIn K mainGlobals "sorted" = some none),
  fun K => PySem.W.keepIn K (.ref (He.ga K "_law_raw")),
  fun K => decide (PySem.W.findIn K (.ref (He.ga K "Market")) "own_currencies" = some none),
  fun K => decide (PySem.W.nsIn K mainGlobals "tuple" = some none),
  fun K => PySem.W.keepIn K (.ref (He.ga K "is_list")),
  fun K => Hs.strO "abcdefghijklmnopqrstuvwxyz" (PySem.W.nsIn K mainGlobals "ALPHABET"),
  fun K => decide (PySem.W.nsIn K mainGlobals "all" = some none),
  fun K => Hs.intO (8) (PySem.W.nsIn K mainGlobals "LETTERS"),
  fun K => PySem.W.keepIn K (.ref (He.ga K "is_name")),
  fun K => PySem.W.keepIn K (.ref (He.ga K "need_name")),
  fun K => decide (PySem.W.nsIn K mainGlobals "enumerate" = some none),
  fun K => PySem.W.readsIn K (He.ga K "Market") (.type "type"),
  fun K => decide (PySem.W.specialIn K (.ref (He.ga K "Market")) "__getattribute__" = some (some (.builtin "type.__getattribute__"))),
  fun K => Hs.catO (4) (PySem.W.findCls K (.ref (He.ga K "Market")) (.type "type") "CURRENCIES"),
  fun K => PySem.W.keepIn K (.ref (He.ga K "need_currencies")),
  fun K => decide (PySem.W.kitOne K (.type "NoneType") (.ref (He.ga K "Office")) = some false),
  fun K => decide (PySem.W.kitOne K (.type "bool") (.ref (He.ga K "Office")) = some false),
  fun K => decide (PySem.W.kitOne K (.type "int") (.ref (He.ga K "Office")) = some false),
  fun K => decide (PySem.W.kitOne K (.type "str") (.ref (He.ga K "Office")) = some false),
  fun K => decide (PySem.W.kitOne K (.type "tuple") (.ref (He.ga K "Office")) = some false),
  fun K => decide (PySem.W.kitOne K (.type "list") (.ref (He.ga K "Office")) = some false),
  fun K => decide (PySem.W.kitOne K (.type "dict") (.ref (He.ga K "Office")) = some false),
  fun K => decide (PySem.W.findIn K (.ref (He.ga K "Market")) "__class__" = some (some (.builtin "object.__class__"))),
  fun K => decide (PySem.W.specialIn K (.builtin "object.__class__") "__get__" = some (some (.builtin "getset_descriptor.__get__"))),
  fun K => decide (PySem.W.takesIn K (.builtin "object.__class__") = some true),
  fun K => decide (PySem.W.mroIn K (He.ga K "Market") (.type "object") = some true),
  fun K => decide (PySem.W.kitOne K (.ref (He.ga K "Market")) (.ref (He.ga K "Market")) = some true),
  fun K => decide (PySem.W.kitOne K (.ref (He.ga K "Market")) (.ref (He.ga K "Office")) = some false),
  fun K => PySem.W.plainGet K (He.ga K "CappedOffice") Str.empty,
  fun K => PySem.W.hasDictIn K (He.ga K "CappedOffice"),
  fun K => PySem.W.plainOver K (He.ga K "CappedOffice"),
  fun K => decide (PySem.W.findIn K (.ref (He.ga K "CappedOffice")) "__setattr__" = some (some (.builtin "object.__setattr__"))),
  fun K => decide (PySem.W.findIn K (.ref (He.ga K "CappedOffice")) "__class__" = some (some (.builtin "object.__class__"))),
  fun K => decide (PySem.W.mroIn K (He.ga K "CappedOffice") (.type "object") = some true),
  fun K => decide (PySem.W.kitOne K (.ref (He.ga K "CappedOffice")) (.ref (He.ga K "CappedOffice")) = some true),
  fun K => decide (PySem.W.kitOne K (.ref (He.ga K "CappedOffice")) (.ref (He.ga K "Office")) = some true),
  fun K => PySem.W.plainGet K (He.ga K "Office") Str.empty,
  fun K => PySem.W.hasDictIn K (He.ga K "Office"),
  fun K => PySem.W.plainOver K (He.ga K "Office"),
  fun K => decide (PySem.W.findIn K (.ref (He.ga K "Office")) "__setattr__" = some (some (.builtin "object.__setattr__"))),
  fun K => decide (PySem.W.findIn K (.ref (He.ga K "Office")) "__class__" = some (some (.builtin "object.__class__"))),
  fun K => decide (PySem.W.mroIn K (He.ga K "Office") (.type "object") = some true),
  fun K => decide (PySem.W.kitOne K (.ref (He.ga K "Office")) (.ref (He.ga K "Office")) = some true),
  fun K => decide (PySem.W.findIn K (.ref (He.ga K "CappedOffice")) "own_ends" = some none),
  fun K => decide (PySem.W.findIn K (.ref (He.ga K "Office")) "own_ends" = some none),
  fun K => decide (PySem.W.specialIn K (.ref (He.ma K (He.ga K "Office") "goal")) "__get__" = some (some (.builtin "property.__get__"))),
  fun K => decide (PySem.W.takesIn K (.ref (He.ma K (He.ga K "Office") "goal")) = some true),
  fun K => PySem.W.keepIn K (.ref (Hs.pf K (He.ma K (He.ga K "Office") "goal"))),
  fun K => decide (PySem.W.specialIn K (.ref (He.ma K (He.ga K "Office") "source")) "__get__" = some (some (.builtin "property.__get__"))),
  fun K => decide (PySem.W.takesIn K (.ref (He.ma K (He.ga K "Office") "source")) = some true),
  fun K => PySem.W.keepIn K (.ref (Hs.pf K (He.ma K (He.ga K "Office") "source"))),
  fun K => PySem.W.keepIn K (.ref (He.ga K "need_ends")),
  fun K => decide (PySem.W.findIn K (.ref (He.ga K "CappedOffice")) "name" = some none),
  fun K => decide (PySem.W.findIn K (.ref (He.ga K "Office")) "name" = some none),
  fun K => Hs.catO (20) (PySem.W.findCls K (.ref (He.ga K "Market")) (.type "type") "OFFICES"),
  fun K => PySem.W.keepIn K (.ref (He.ga K "need_offices")),
  fun K => PySem.W.keepIn K (.ref (He.ma K (He.ga K "Market") "__init__")),
  fun K => PySem.W.makesIn K (He.ga K "Market"),
  fun K => PySem.W.isFn K (.ref (He.ma K (He.ga K "Market") "__init__")),
  fun K => PySem.W.keepIn K (.ref (He.ga K "Market")),
  fun K => decide (PySem.W.nsIn K mainGlobals "bool" = some none),
  fun K => PySem.W.keepIn K (.ref (He.ga K "is_integer")),
  fun K => PySem.W.readsIn K (He.ga K "Office") (.type "type"),
  fun K => decide (PySem.W.specialIn K (.ref (He.ga K "Office")) "__getattribute__" = some (some (.builtin "type.__getattribute__"))),
  fun K => Hs.catO (9) (PySem.W.findCls K (.ref (He.ga K "Office")) (.type "type") "RATE"),
  fun K => PySem.W.keepIn K (.ref (He.ga K "is_rate")),
  fun K => PySem.W.keepIn K (.ref (He.ga K "need_integer")),
  fun K => Hs.intO (20) (PySem.W.findIn K (.ref (He.ga K "CappedOffice")) "FEE"),
  fun K => Hs.intO (20) (PySem.W.findIn K (.ref (He.ga K "Office")) "FEE"),
  fun K => Hs.intO (1000) (PySem.W.findIn K (.ref (He.ga K "CappedOffice")) "LEAST"),
  fun K => Hs.intO (1000) (PySem.W.findIn K (.ref (He.ga K "Office")) "LEAST"),
  fun K => decide (PySem.W.findIn K (.ref (He.ga K "CappedOffice")) "own_rate" = some none),
  fun K => decide (PySem.W.findIn K (.ref (He.ga K "Office")) "own_rate" = some none),
  fun K => decide (PySem.W.findIn K (.ref (He.ga K "CappedOffice")) "own_fee" = some none),
  fun K => decide (PySem.W.findIn K (.ref (He.ga K "Office")) "own_fee" = some none),
  fun K => decide (PySem.W.findIn K (.ref (He.ga K "CappedOffice")) "own_least" = some none),
  fun K => decide (PySem.W.findIn K (.ref (He.ga K "Office")) "own_least" = some none),
  fun K => PySem.W.keepIn K (.ref (He.ma K (He.ga K "Office") "__init__")),
  fun K => PySem.W.makesIn K (He.ga K "Office"),
  fun K => PySem.W.isFn K (.ref (He.ma K (He.ga K "Office") "__init__")),
  fun K => PySem.W.keepIn K (.ref (He.ga K "Office")),
  fun K => decide (PySem.W.mroIn K (He.ga K "CappedOffice") (.ref (He.ga K "CappedOffice")) = some true),
  fun K => decide (PySem.W.ks_superIn K (He.ga K "CappedOffice") (He.ga K "CappedOffice") "__init__" = some (some (.ref (He.ma K (He.ga K "Office") "__init__")))),
  fun K => decide (PySem.W.typeIn K (.ref (He.ma K (He.ga K "Office") "__init__")) = some (.type "function")),
  fun K => PySem.W.fnIn K (He.ma K (He.ga K "Office") "__init__"),
  fun K => decide (PySem.W.nsIn K cStatics "thirdparty.any" = some none),
  fun K => Hs.intO (1000000) (PySem.W.findIn K (.ref (He.ga K "CappedOffice")) "MOST"),
  fun K => decide (PySem.W.findIn K (.ref (He.ga K "CappedOffice")) "own_most" = some none),
  fun K => (PySem.W.clsIn K (He.ga K "CappedOffice")).isSome,
  fun K => decide (PySem.W.nsIn K mainGlobals "super" = some none),
  fun K => PySem.W.makesIn K (He.ga K "CappedOffice"),
  fun K => PySem.W.isFn K (.ref (He.ma K (He.ga K "CappedOffice") "__init__")),
  fun K => PySem.W.keepIn K (.ref (He.ga K "CappedOffice")),
  fun K => PySem.W.keepIn K (.ref (He.ga K "_law_one")),
  fun K => PySem.W.keepIn K (.ref (He.ga K "_law_made")),
  fun K => PySem.W.keepIn K (.ref (He.ga K "_law_amount")),
  fun K => PySem.W.keepIn K (.ref (He.ga K "_law_goal")),
  fun K => decide (PySem.W.nsIn K mainGlobals "dict" = some none),
  fun K => PySem.W.keepIn K (.ref (He.ga K "_law_first")),
  fun K => decide (PySem.W.nsIn K mainGlobals "max" = some none),
  fun K => PySem.W.keepIn K (.ref (He.ga K "_law_result")),
  fun K => PySem.W.keepIn K (.ref (He.ga K "_law_level")),
  fun K => PySem.W.keepIn K (.ref (He.ga K "_law_levels")),
  fun K => Hs.intO (1000000000000000000000000000000) (PySem.W.nsIn K mainGlobals "COINS"),
  fun K => PySem.W.keepIn K (.ref (He.ga K "is_amount")),
  fun K => PySem.W.keepIn K (.ref (He.ga K "is_pair")),
  fun K => decide (PySem.W.specialIn K (.ref (He.ma K (He.ga K "Market") "currencies")) "__get__" = some (some (.builtin "property.__get__"))),
  fun K => decide (PySem.W.takesIn K (.ref (He.ma K (He.ga K "Market") "currencies")) = some true),
  fun K => PySem.W.keepIn K (.ref (Hs.pf K (He.ma K (He.ga K "Market") "currencies"))),
  fun K => PySem.W.keepIn K (.ref (He.ga K "need_currency")),
  fun K => PySem.W.keepIn K (.ref (He.ga K "need_holding")),
  fun K => PySem.W.keepIn K (.ref (He.ga K "need_amount")),
  fun K => Hs.intO (1000) (PySem.W.nsIn K mainGlobals "FEWEST"),
  fun K => PySem.W.keepIn K (.ref (He.ga K "need_goal")),
  fun K => Hs.intO (-1) (PySem.W.nsIn K mainGlobals "NEVER"),
  fun K => PySem.W.keepIn K (.ref (He.ga K "first_level")),
  fun K => decide (PySem.W.specialIn K (.ref (He.ma K (He.ga K "Market") "offices")) "__get__" = some (some (.builtin "property.__get__"))),
  fun K => decide (PySem.W.takesIn K (.ref (He.ma K (He.ga K "Market") "offices")) = some true),
  fun K => PySem.W.keepIn K (.ref (Hs.pf K (He.ma K (He.ga K "Market") "offices"))),
  fun K => decide (PySem.W.ks_superIn K (He.ga K "CappedOffice") (He.ga K "CappedOffice") "result" = some (some (.ref (He.ma K (He.ga K "Office") "result")))),
  fun K => decide (PySem.W.typeIn K (.ref (He.ma K (He.ga K "Office") "result")) = some (.type "function")),
  fun K => PySem.W.fnIn K (He.ma K (He.ga K "Office") "result"),
  fun K => PySem.W.keepIn K (.ref (He.ma K (He.ga K "Office") "result")),
  fun K => PySem.W.isFn K (.ref (He.ma K (He.ga K "CappedOffice") "result")),
  fun K => PySem.W.keepIn K (.ref (He.ma K (He.ga K "CappedOffice") "result")),
  fun K => PySem.W.isFn K (.ref (He.ma K (He.ga K "Office") "result")),
  fun K => PySem.W.keepIn K (.ref (He.ga K "level_after")),
  fun K => PySem.W.keepIn K (.ref (He.ga K "levels_to")),
  fun K => PySem.W.keepIn K (.ref (He.ga K "fewest")),
  fun K => Hs.kwdB K [(("most" : Str), ((.int 60) : L2.V))] (Hs.kvOf K (He.ga K "fewest")),
  fun K => decide (PySem.W.nsIn K mainGlobals "repr" = some none),
  fun K => PySem.W.keepIn K (.ref (He.ga K "law"))]
def fns : List Hs.Df := [
  ⟨fun K => (He.ga K "law"), "law", "law", s_law, [], 0⟩,
  ⟨fun K => (He.ga K "_law_pen"), "_law_pen", "_law_pen", s_law_pen, [], 0⟩,
  ⟨fun K => (He.ma K (He.ga K "Market") "__len__"), "__len__", "Market.__len__", s_Market_len, [], 0⟩,
  ⟨fun K => (He.ga K "_law_raw"), "_law_raw", "_law_raw", s_law_raw, [], 0⟩,
  ⟨fun K => (He.ga K "_law_names"), "_law_names", "_law_names", s_law_names, [], 0⟩,
  ⟨fun K => (He.ga K "_law_draw"), "_law_draw", "_law_draw", s_law_draw, [], 0⟩,
  ⟨fun K => (He.ga K "_law_pick"), "_law_pick", "_law_pick", s_law_pick, [], 0⟩,
  ⟨fun K => (He.ga K "_law_office"), "_law_office", "_law_office", s_law_office, [], 0⟩,
  ⟨fun K => (He.ga K "_law_ring"), "_law_ring", "_law_ring", s_law_ring, [], 0⟩,
  ⟨fun K => (He.ma K (He.ga K "Market") "__getitem__"), "__getitem__", "Market.__getitem__", s_Market_getitem, [], 0⟩,
  ⟨fun K => (He.ma K (He.ga K "Market") "__contains__"), "__contains__", "Market.__contains__", s_Market_contains, [], 0⟩,
  ⟨fun K => (He.ga K "_law_shuffled"), "_law_shuffled", "_law_shuffled", s_law_shuffled, [], 0⟩,
  ⟨fun K => (He.ga K "_law_made"), "_law_made", "_law_made", s_law_made, [], 0⟩,
  ⟨fun K => (He.ma K (He.ga K "Market") "__init__"), "__init__", "Market.__init__", s_Market_init, [], 1⟩,
  ⟨fun K => (He.ga K "need_currencies"), "need_currencies", "need_currencies", s_need_currencies, [], 0⟩,
  ⟨fun K => (He.ga K "is_list"), "is_list", "is_list", s_is_list, [], 0⟩,
  ⟨fun K => (He.ga K "need_name"), "need_name", "need_name", s_need_name, [], 0⟩,
  ⟨fun K => (He.ga K "is_name"), "is_name", "is_name", s_is_name, [], 0⟩,
  ⟨fun K => (He.ga K "need_offices"), "need_offices", "need_offices", s_need_offices, [], 0⟩,
  ⟨fun K => (He.ga K "need_ends"), "need_ends", "need_ends", s_need_ends, [], 0⟩,
  ⟨fun K => (Hs.pf K (He.ma K (He.ga K "Office") "goal")), "goal", "Office.goal", s_Office_goal, [], 0⟩,
  ⟨fun K => (Hs.pf K (He.ma K (He.ga K "Office") "source")), "source", "Office.source", s_Office_source, [], 0⟩,
  ⟨fun K => (He.ga K "_law_one"), "_law_one", "_law_one", s_law_one, [], 0⟩,
  ⟨fun K => (He.ma K (He.ga K "Office") "__init__"), "__init__", "Office.__init__", s_Office_init, [], 0⟩,
  ⟨fun K => (He.ga K "is_rate"), "is_rate", "is_rate", s_is_rate, [], 0⟩,
  ⟨fun K => (He.ga K "is_integer"), "is_integer", "is_integer", s_is_integer, [], 0⟩,
  ⟨fun K => (He.ga K "need_integer"), "need_integer", "need_integer", s_need_integer, [], 0⟩,
  ⟨fun K => (He.ma K (He.ga K "CappedOffice") "__init__"), "__init__", "CappedOffice.__init__", s_CappedOffice_init, ["__class__"], 0⟩,
  ⟨fun K => (He.ga K "_law_amount"), "_law_amount", "_law_amount", s_law_amount, [], 0⟩,
  ⟨fun K => (He.ga K "_law_goal"), "_law_goal", "_law_goal", s_law_goal, [], 0⟩,
  ⟨fun K => (He.ga K "_law_levels"), "_law_levels", "_law_levels", s_law_levels, [], 0⟩,
  ⟨fun K => (He.ga K "_law_first"), "_law_first", "_law_first", s_law_first, [], 0⟩,
  ⟨fun K => (He.ga K "_law_level"), "_law_level", "_law_level", s_law_level, [], 0⟩,
  ⟨fun K => (He.ga K "_law_result"), "_law_result", "_law_result", s_law_result, [], 0⟩,
  ⟨fun K => (He.ga K "fewest"), "fewest", "fewest", s_fewest, [], 0⟩,
  ⟨fun K => (He.ga K "need_goal"), "need_goal", "need_goal", s_need_goal, [], 0⟩,
  ⟨fun K => (He.ga K "need_holding"), "need_holding", "need_holding", s_need_holding, [], 0⟩,
  ⟨fun K => (He.ga K "is_pair"), "is_pair", "is_pair", s_is_pair, [], 0⟩,
  ⟨fun K => (He.ga K "is_amount"), "is_amount", "is_amount", s_is_amount, [], 0⟩,
  ⟨fun K => (He.ga K "need_currency"), "need_currency", "need_currency", s_need_currency, [], 0⟩,
  ⟨fun K => (Hs.pf K (He.ma K (He.ga K "Market") "currencies")), "currencies", "Market.currencies", s_Market_currencies, [], 0⟩,
  ⟨fun K => (He.ga K "need_amount"), "need_amount", "need_amount", s_need_amount, [], 0⟩,
  ⟨fun K => (He.ga K "levels_to"), "levels_to", "levels_to", s_levels_to, [], 0⟩,
  ⟨fun K => (He.ga K "first_level"), "first_level", "first_level", s_first_level, [], 0⟩,
  ⟨fun K => (He.ga K "level_after"), "level_after", "level_after", s_level_after, [], 0⟩,
  ⟨fun K => (Hs.pf K (He.ma K (He.ga K "Market") "offices")), "offices", "Market.offices", s_Market_offices, [], 0⟩,
  ⟨fun K => (He.ma K (He.ga K "Office") "result"), "result", "Office.result", s_Office_result, [], 0⟩,
  ⟨fun K => (He.ma K (He.ga K "CappedOffice") "result"), "result", "CappedOffice.result", s_CappedOffice_result, ["__class__"], 0⟩]
abbrev hk : PySem.W.Hook := Hs.hook 4000 ex fns
def ob (s : PySem.W.SharedT) : Hs.Al := Hs.obsG 4000 ex fns (HandSHeadRun.getT s)
theorem ob_eq (s : PySem.W.SharedT) : ob s = hk.obs s.abs := Hs.obsG_eq
theorem ob_split {n : Nat} {ex : List (Hs.Frag → Bool)} {fn : List Hs.Df} {g : Addr → Option Obj} (h1 : Hs.obsG n ex [] g = (true, [])) (h2 : Hs.obsG n [] fn g = Hs.valK fn) : Hs.obsG n ex fn g = Hs.valK fn := by
  unfold Hs.obsG Hs.obsK Hs.valK at *
  rw [Prod.mk.injEq] at h1 h2 ⊢
  obtain ⟨a, _⟩ := h1
  obtain ⟨b, c⟩ := h2
  refine ⟨?_, c⟩
  simp only [List.all_nil, Bool.and_true, Bool.true_and] at a b
  rw [a, b]
  rfl
theorem comb {α β γ : Type} {o : Option α} {f : α → β} {g : α → γ} {h : α → Hs.Al} {h1 h2 : α → Hs.Al} {a : β} {b : γ} {c v1 v2 : Hs.Al} (e1 : o.map (fun s => (f s, g s)) = some (a, b)) (e2 : o.map h1 = some v1) (e3 : o.map h2 = some v2) (e : ∀ s, h1 s = v1 → h2 s = v2 → h s = c) : o.map (fun s => (f s, g s, h s)) = some (a, b, c) := by
  cases o with
  | none => cases e1
  | some s =>
    have e1 := Option.some.inj e1
    rw [Prod.mk.injEq] at e1
    show some (f s, g s, h s) = some (a, b, c)
    rw [e1.1, e1.2, e s (Option.some.inj e2) (Option.some.inj e3)]
noncomputable abbrev endR (w : World) (os : OsState) := HandSHeadRun.endF (HandSHeadRun.stepQ (HandSHeadRun.denQ HandSHeadRun.tabQ) R.prog w) 40000 R.prog w os
open PySem.W HandSHeadRun in
theorem run1 (w : World) (os : OsState) : (endR w os).map (fun s => (looksF R.prog (boot_heap w.params) s.abs, seenQ (PySem.W.view R.prog [69]) nms (importedModules R.prog.main.body) (fun s => xlAt (PySem.W.view R.prog [69]) [] s && recOk R.toRowW.records s) s.abs)) = some (true, openGood (PySem.W.view R.prog [69]) nms) := by
  kernel_rfl
theorem run2 (w : World) (os : OsState) : (endR w os).map (fun s => Hs.obsG 4000 ex [] (HandSHeadRun.getT s)) = some (true, []) := by
  kernel_rfl
theorem run3 (w : World) (os : OsState) : (endR w os).map (fun s => Hs.obsG 4000 [] fns (HandSHeadRun.getT s)) = some (Hs.valK fns) := by
  kernel_rfl
theorem run (w : World) : HandSHeadRun.RunEq R (PySem.W.view R.prog [69]) hk ob 40000 nms w := by
  intro os
  exact comb (run1 w os) (run2 w os) (run3 w os) fun s h1 h2 => ob_split h1 h2
end Lw
/-! Den1: a law's code as a computation over values: what the heap holds is said once, here. -/
namespace Dn
open PySem L2
/-- a value as data -/
inductive PV where
  | non | bl (b : Bool) | int (i : Int) | str (s : Str) | tup (xs : List PV) | lst (xs : List PV) | scr (xs : List Int) | hnd (n : Nat) | obj (c : Str) (ks : List Str) (vs : List PV) | exn (c : Str) (ks : List Str) (vs : List PV) | dic (kvs : List (Str × Int)) | dct (ks : List Key) (vs : List PV) | kt (ks : List Key)
/-- what a handle holds: a dict that changes -/
inductive MO where
  | dic (kvs : List (Key × PV))
  | ins (c : Str) (ks : List Str) (vs : List PV)
  | own (n : Nat)
  | dtt (kvs : List (List Key × PV))
  | gone
/-- what is frozen, and where the handles stand -/
structure Vw where
  F : Hp
  hs : List Addr
structure Vw.Le (W W' : Vw) : Prop where
  ex : Same W.F W'.F
  pre : ∀ (n : Nat) (a : Addr), W.hs[n]? = some a → W'.hs[n]? = some a
theorem Vw.Le.refl (W : Vw) : W.Le W := ⟨Same.refl _, fun _ _ h => h⟩
theorem Vw.Le.trans {W W1 W2 : Vw} (a : W.Le W1) (b : W1.Le W2) : W.Le W2 := ⟨a.ex.trans b.ex, fun n x h => b.pre n x (a.pre n x h)⟩
/-- an exception object as a tracked thing: its class, its dict -/
def exv (a : Addr) (cls : Value) (d : Option Addr) : HO := .ext fun h => ∃ (oe : Obj) (vs : Array Value), h.get? a = some oe ∧ Zc cls d oe ∧ oe.data = .fields vs
/-- the class of that name -/
def ClsAt (K : PySem.W.Frag) (c : Str) (C : Addr) : Prop := PySem.W.nsIn K mainGlobals c = some (some (.ref C))
mutual
inductive Rep (K : PySem.W.Frag) (W : Vw) : V → PV → Prop
  | non : Rep K W .non .non
  | bl (b : Bool) : Rep K W (.bl b) (.bl b)
  | int (i : Int) : Rep K W (.int i) (.int i)
  | str (s : Str) : Rep K W (.str s) (.str s)
  | tup {a : Addr} {vs : List V} {ds : List PV} : SqT K W.F a vs → Reps K W vs ds → Rep K W (.ref a) (.tup ds)
  | lst {a : Addr} {vs : List V} {ds : List PV} : W.F a = some (.lst vs) → Reps K W vs ds → Rep K W (.ref a) (.lst ds)
  | scr {a : Addr} {ns : List Int} : SqL K W.F a (ns.map V.int) → Rep K W (.ref a) (.scr ns)
  | hnd {a : Addr} {n : Nat} : W.hs[n]? = some a → Rep K W (.ref a) (.hnd n)
  | obj {x C dx : Addr} {c : Str} {ks : List Str} {us : List V} {vs : List PV} : ClsAt K c C → W.F x = some (.ins C dx (ks.zip us)) → W.F dx = some (.own x) → ks.length = vs.length → Reps K W us vs → Rep K W (.ref x) (.obj c ks vs)
  | exn {x C dx : Addr} {c : Str} {ks : List Str} {us : List V} {vs : List PV} : ClsAt K c C → W.F x = some (exv x (.ref C) (some dx)) → W.F dx = some (.xd (ks.zip us)) → ks.length = vs.length → Reps K W us vs → Rep K W (.ref x) (.exn c ks vs)
  | dic {a : Addr} {kvs : List (Str × Int)} : W.F a = some (.dK (kvs.map fun p => (Sum.inr p.1, V.int p.2))) → Rep K W (.ref a) (.dic kvs)
  | dct {a : Addr} {o : Obj} {ks : List Key} {us : List V} {vs : List PV} : W.F a = some (.frz o (.dK (ks.zip us))) → ks.length = vs.length → Reps K W us vs → Rep K W (.ref a) (.dct ks vs)
  | kt {a : Addr} {ks : List Key} : W.F a = some (.tup (ks.map kV)) → Rep K W (.ref a) (.kt ks)
inductive Reps (K : PySem.W.Frag) (W : Vw) : List V → List PV → Prop
  | nil : Reps K W [] []
  | cons {v : V} {vs : List V} {d : PV} {ds : List PV} : Rep K W v d → Reps K W vs ds → Reps K W (v :: vs) (d :: ds)
end
theorem same_t {K : PySem.W.Frag} {H H' : Hp} {a : Addr} {xs : List V} (e : Same H H') (h : SqT K H a xs) : SqT K H' a xs := by
  rcases h with (h | ⟨o, h⟩) | h
  · exact .inl (.inl (e _ _ h))
  · exact .inl (.inr ⟨o, e _ _ h⟩)
  · exact .inr h
mutual
theorem Rep.mono {K : PySem.W.Frag} {W W' : Vw} (l : W.Le W') : ∀ {v : V} {d : PV}, Rep K W v d → Rep K W' v d
  | _, _, .non => .non
  | _, _, .bl b => .bl b
  | _, _, .int i => .int i
  | _, _, .str s => .str s
  | _, _, .tup h r => .tup (same_t l.ex h) (Reps.mono l r)
  | _, _, .lst h r => .lst (l.ex _ _ h) (Reps.mono l r)
  | _, _, .scr h => .scr (l.ex.seq h)
  | _, _, .hnd h => .hnd (l.pre _ _ h)
  | _, _, .obj c h d n r => .obj c (l.ex _ _ h) (l.ex _ _ d) n (Reps.mono l r)
  | _, _, .exn c h d n r => .exn c (l.ex _ _ h) (l.ex _ _ d) n (Reps.mono l r)
  | _, _, .dic h => .dic (l.ex _ _ h)
  | _, _, .dct h n r => .dct (l.ex _ _ h) n (Reps.mono l r)
  | _, _, .kt h => .kt (l.ex _ _ h)
theorem Reps.mono {K : PySem.W.Frag} {W W' : Vw} (l : W.Le W') : ∀ {vs : List V} {ds : List PV}, Reps K W vs ds → Reps K W' vs ds
  | _, _, .nil => .nil
  | _, _, .cons h r => .cons (Rep.mono l h) (Reps.mono l r)
end
section
variable {K : PySem.W.Frag} {W : Vw}
theorem Reps.length : ∀ {vs : List V} {ds : List PV}, Reps K W vs ds → vs.length = ds.length
  | _, _, .nil => rfl
  | _, _, .cons _ r => congrArg Nat.succ (Reps.length r)
theorem Reps.append : ∀ {vs ws : List V} {ds es : List PV}, Reps K W vs ds → Reps K W ws es → Reps K W (vs ++ ws) (ds ++ es)
  | _, _, _, _, .nil, s => s
  | _, _, _, _, .cons h r, s => .cons h (Reps.append r s)
theorem Reps.get : ∀ {vs : List V} {ds : List PV} {i : Nat} {d : PV}, Reps K W vs ds → ds[i]? = some d → ∃ v, vs[i]? = some v ∧ Rep K W v d
  | _, _, i, _, .nil, e => by simp at e
  | _, _, 0, _, .cons h _, e => by simp at e; subst e; exact ⟨_, rfl, h⟩
  | _, _, i + 1, d, .cons _ r, e => by
    obtain ⟨v, h1, h2⟩ := Reps.get (i := i) (d := d) r (by simpa using e)
    exact ⟨v, by simpa using h1, h2⟩
theorem Reps.getV : ∀ {vs : List V} {ds : List PV} {i : Nat} {v : V}, Reps K W vs ds → vs[i]? = some v → ∃ d, ds[i]? = some d ∧ Rep K W v d
  | _, _, i, _, .nil, e => by simp at e
  | _, _, 0, _, .cons h _, e => by simp at e; subst e; exact ⟨_, rfl, h⟩
  | _, _, i + 1, d, .cons _ r, e => by
    obtain ⟨v, h1, h2⟩ := Reps.getV (i := i) (v := d) r (by simpa using e)
    exact ⟨v, by simpa using h1, h2⟩
theorem Reps.take : ∀ {vs : List V} {ds : List PV} (n : Nat), Reps K W vs ds → Reps K W (vs.take n) (ds.take n)
  | _, _, 0, _ => .nil
  | _, _, _ + 1, .nil => .nil
  | _, _, n + 1, .cons h r => .cons h (Reps.take n r)
theorem Reps.drop : ∀ {vs : List V} {ds : List PV} (n : Nat), Reps K W vs ds → Reps K W (vs.drop n) (ds.drop n)
  | _, _, 0, r => r
  | _, _, _ + 1, .nil => .nil
  | _, _, n + 1, .cons _ r => Reps.drop n r
theorem Reps.erase : ∀ {vs : List V} {ds : List PV} (n : Nat), Reps K W vs ds → Reps K W (vs.eraseIdx n) (ds.eraseIdx n)
  | _, _, _, .nil => .nil
  | _, _, 0, .cons _ r => r
  | _, _, n + 1, .cons h r => .cons h (Reps.erase n r)
theorem Reps.set {v : V} {d : PV} (q : Rep K W v d) : ∀ {vs : List V} {ds : List PV} (n : Nat), Reps K W vs ds → Reps K W (vs.set n v) (ds.set n d)
  | _, _, _, .nil => .nil
  | _, _, 0, .cons _ r => .cons q r
  | _, _, n + 1, .cons h r => .cons h (Reps.set q n r)
theorem Reps.rep {vs : List V} {ds : List PV} (r : Reps K W vs ds) : ∀ n : Nat, Reps K W (List.replicate n vs).flatten (List.replicate n ds).flatten
  | 0 => .nil
  | n + 1 => by
    rw [List.replicate_succ, List.replicate_succ, List.flatten_cons, List.flatten_cons]
    exact r.append (Reps.rep r n)
theorem Reps.ints : ∀ (ns : List Int), Reps K W (ns.map V.int) (ns.map PV.int)
  | [] => .nil
  | n :: ns => .cons (.int n) (Reps.ints ns)
theorem Reps.strs : ∀ (ns : List Str), Reps K W (ns.map V.str) (ns.map PV.str)
  | [] => .nil
  | n :: ns => .cons (.str n) (Reps.strs ns)
/-- the values of texts are texts -/
theorem Reps.of_strs : ∀ {vs : List V} {ns : List Str}, Reps K W vs (ns.map PV.str) → vs = ns.map V.str
  | _, [], .nil => rfl
  | _, n :: ns, .cons h r => by
    cases h
    rw [Reps.of_strs r]
    rfl
theorem Reps.of_bls : ∀ {vs : List V} {ns : List Bool}, Reps K W vs (ns.map PV.bl) → vs = ns.map V.bl
  | _, [], .nil => rfl
  | _, n :: ns, .cons h r => by
    cases h
    rw [Reps.of_bls r]
    rfl
end
/-! ### a dict's pairs -/
inductive KVs {κ : Type} (K : PySem.W.Frag) (W : Vw) : List (κ × V) → List (κ × PV) → Prop
  | nil : KVs K W [] []
  | cons {k : κ} {v : V} {d : PV} {r : List (κ × V)} {s : List (κ × PV)} : Rep K W v d → KVs K W r s → KVs K W ((k, v) :: r) ((k, d) :: s)
theorem KVs.mono {κ : Type} {K : PySem.W.Frag} {W W' : Vw} (l : W.Le W') : ∀ {r : List (κ × V)} {s : List (κ × PV)}, KVs K W r s → KVs K W' r s
  | _, _, .nil => .nil
  | _, _, .cons h r => .cons (h.mono l) (KVs.mono l r)
/-- what a handle's object is in the heap -/
inductive MRep (K : PySem.W.Frag) (W : Vw) (H : Hp) (a : Addr) : MO → Prop
  | dic {kvs : List (Key × V)} {ds : List (Key × PV)} : H a = some (.dK kvs) → KVs K W kvs ds → MRep K W H a (.dic ds)
  | ins {C dx : Addr} {n : Nat} {c : Str} {ks : List Str} {us : List V} {vs : List PV} : ClsAt K c C → H a = some (.ins C dx (ks.zip us)) → W.hs[n]? = some a → W.hs[n + 1]? = some dx → ks.length = vs.length → Reps K W us vs → MRep K W H a (.ins c ks vs)
  | own {n : Nat} {x : Addr} : W.hs[n]? = some x → H a = some (.own x) → MRep K W H a (.own n)
  | dtt {kvs : List (List Key × V)} {ds : List (List Key × PV)} : H a = some (.dT kvs) → KVs K W kvs ds → MRep K W H a (.dtt ds)
/-! ### the state of a body -/
inductive SV where
  | val (d : PV)
  | own (xs : List PV)
abbrev Env := List (Option SV)
structure S where
  env : Env
  sto : List MO
structure Ctx where
  G : Hp
  F0 : Hp
  hs0 : List Addr
  X : WX
abbrev Ctx.wi (C : Ctx) (Y : WX) : Ctx := { C with X := Y }
/-- a handle's place: live, or frozen long ago -/
def Hd (K : PySem.W.Frag) (W : Vw) (st : List MO) (H : Hp) (n : Nat) (a : Addr) : Prop := (W.F a = none ∧ ∃ mo, st[n]? = some mo ∧ MRep K W H a mo) ∨ (W.F a ≠ none ∧ st[n]? = some .gone)
structure Okk (K : PySem.W.Frag) (W : Vw) (st : List MO) (H : Hp) : Prop where
  sub : Same W.F H
  hnd : ∀ (n : Nat) (a : Addr), W.hs[n]? = some a → Hd K W st H n a
  nd : W.hs.Nodup
  len : st.length = W.hs.length
structure Owns (C : Ctx) (W : Vw) (a : Addr) : Prop where
  f : W.F a = none
  h : a ∉ W.hs
  g : C.G a = none
structure At (K : PySem.W.Frag) (C : Ctx) (W : Vw) (s : S) (σ : L2.St) (H : Hp) : Prop where
  ok : Okk K W s.sto H
  keep : ∀ a o, C.G a = some o → a ∉ C.hs0 → H a = some o
  pre : ∀ (n : Nat) (a : Addr), C.hs0[n]? = some a → W.hs[n]? = some a
  gro : ∀ a, C.G a ≠ none → W.F a = C.F0 a ∧ (a ∈ W.hs → a ∈ C.hs0)
  len : σ.length = s.env.length
  val : ∀ (i : Nat) (d : PV), s.env[i]? = some (some (.val d)) → ∃ v, σ[i]? = some (some v) ∧ Rep K W v d
  own : ∀ (i : Nat) (xs : List PV), s.env[i]? = some (some (.own xs)) → ∃ a vs, σ[i]? = some (some (.ref a)) ∧ Owns C W a ∧ H a = some (.lst vs) ∧ Reps K W vs xs
  dst : ∀ (i j : Nat) (xs ys : List PV) (a : Addr), s.env[i]? = some (some (.own xs)) → s.env[j]? = some (some (.own ys)) → σ[i]? = some (some (.ref a)) → σ[j]? = some (some (.ref a)) → i = j
theorem At.wi {K : PySem.W.Frag} {C : Ctx} {W : Vw} {s : S} {σ : L2.St} {H : Hp} (h : At K C W s σ H) (Y : WX) : At K (C.wi Y) W s σ H := ⟨h.ok, h.keep, h.pre, h.gro, h.len, h.val, fun i xs e => let ⟨a, vs, e1, ow, r⟩ := h.own i xs e; ⟨a, vs, e1, ⟨ow.f, ow.h, ow.g⟩, r⟩, h.dst⟩
/-- an exception's object, as data -/
inductive ERep (K : PySem.W.Frag) (W : Vw) : Value → Option Addr → PV → Prop
  | own {C dx : Addr} {c : Str} {ks : List Str} {us : List V} {vs : List PV} : ClsAt K c C → W.F dx = some (.xd (ks.zip us)) → ks.length = vs.length → Reps K W us vs → ERep K W (.ref C) (some dx) (.obj c ks vs)
  | blt {T : String} {d : Option Addr} : ERep K W (.type T) d (.tup [.str T])
/-! ### computations -/
inductive Res (τ α : Type) where
  | ok (a : α) (s : τ)
  | exc (e : PV) (s : τ)
  | stk
abbrev M (α : Type) := S → Res S α
def bnd {α β : Type} (c : M α) (f : α → M β) : M β := fun s => match c s with
  | .ok a s' => f a s'
  | .exc e s' => .exc e s'
  | .stk => .stk
def ret {α : Type} (a : α) : M α := fun s => .ok a s
def stuck {α : Type} : M α := fun _ => .stk
/-- a partial answer -/
def lft {α : Type} (o : Option α) : M α := fun s => match o with
  | some a => .ok a s
  | none => .stk
section
variable {K : PySem.W.Frag} {C : Ctx} {W W' : Vw} {σ : L2.St} {H : Hp} {s : S} {α β : Type}
/-- what is wanted of an answer -/
def Pst (K : PySem.W.Frag) (C : Ctx) (W : Vw) (σ : L2.St) (r : Res S α) (Q : α → S → Vw → Hp → Prop) : Prop := match r with
  | .ok a s' => ∀ W' H', W.Le W' → At K C W' s' σ H' → Q a s' W' H'
  | .exc e s' => ∀ W' σ' H' cls d, W.Le W' → At K C W' s' σ' H' → ERep K W' cls d e → C.X cls d σ' H'
  | .stk => False
theorem Pst.imp {r : Res S α} {Q Q' : α → S → Vw → Hp → Prop} (h : Pst K C W σ r Q) (f : ∀ a s' W' H', W.Le W' → At K C W' s' σ H' → Q a s' W' H' → Q' a s' W' H') : Pst K C W σ r Q' := by
  cases r with
  | ok a s' => exact fun W' H' l at' => f a s' W' H' l at' (h W' H' l at')
  | exc => exact h
  | stk => exact h
theorem Pst.up {r : Res S α} {Q : α → S → Vw → Hp → Prop} (l : W.Le W') (h : Pst K C W σ r Q) : Pst K C W' σ r Q := by
  cases r with
  | ok a s' => exact fun W2 H2 l2 at2 => h W2 H2 (l.trans l2) at2
  | exc e s' => exact fun W2 σ2 H2 cls d l2 at2 r => h W2 σ2 H2 cls d (l.trans l2) at2 r
  | stk => exact h
theorem Pst.bnd {c : M α} {f : α → M β} {Q : β → S → Vw → Hp → Prop} (h : Pst K C W σ (bnd c f s) Q) : Pst K C W σ (c s) (fun a s1 W1 _ => Pst K C W1 σ (f a s1) Q) := by
  unfold Dn.bnd at h
  cases e : c s with
  | ok a s1 =>
    rw [e] at h
    exact fun W1 H1 l _ => h.up l
  | exc => rw [e] at h; exact h
  | stk => rw [e] at h; exact h
/-- an expression's reading: it answers as c does -/
def den (K : PySem.W.Frag) (Y : WX) (c : M PV) : TE := fun σ H Q => ∃ (C : Ctx) (W : Vw) (s : S), At K (C.wi Y) W s σ H ∧ Pst K (C.wi Y) W σ (c s) (fun d _ W' H' => ∀ v, Rep K W' v d → Q v H')
/-- a test's -/
def denT (K : PySem.W.Frag) (Y : WX) (c : M Bool) : TT := fun σ H Q => ∃ (C : Ctx) (W : Vw) (s : S), At K (C.wi Y) W s σ H ∧ Pst K (C.wi Y) W σ (c s) (fun b _ _ H' => Q b H')
/-- arguments' -/
def denA (K : PySem.W.Frag) (Y : WX) (c : M (List PV)) : TA := fun σ H Q => ∃ (C : Ctx) (W : Vw) (s : S), At K (C.wi Y) W s σ H ∧ Pst K (C.wi Y) W σ (c s) (fun ds _ W' H' => ∀ vs, Reps K W' vs ds → Q vs H')
/-- an expression that makes a new list, nobody's yet -/
def denO (K : PySem.W.Frag) (Y : WX) (c : M (List PV)) : TE := fun σ H Q => ∃ (C : Ctx) (W : Vw) (s : S), At K (C.wi Y) W s σ H ∧ Pst K (C.wi Y) W σ (c s) (fun ds _ W' H' => ∀ p vs, H' p = none → Reps K W' vs ds → Q (.ref p) (upd H' p (.lst vs)))
inductive Fl where
  | nx | rt (d : PV) | bk | ct
/-- a statement's: the slots may change -/
def PstS (K : PySem.W.Frag) (C : Ctx) (W : Vw) (D : Ends) (r : Res S Fl) : Prop := match r with
  | .ok fl s' => ∀ W' σ' H', W.Le W' → At K C W' s' σ' H' → (match fl with
    | .nx => D.nx σ' H'
    | .rt d => ∀ v, Rep K W' v d → D.rt v H'
    | .bk => D.bk σ' H'
    | .ct => D.ct σ' H')
  | .exc e s' => ∀ W' σ' H' cls d, W.Le W' → At K C W' s' σ' H' → ERep K W' cls d e → C.X cls d σ' H'
  | .stk => False
def denS (K : PySem.W.Frag) (Y : WX) (c : M Fl) : TS := fun D σ H => ∃ (C : Ctx) (W : Vw) (s : S), At K (C.wi Y) W s σ H ∧ PstS K (C.wi Y) W D (c s)
end
theorem pe_imp {X : Cx} {e : Expr} {t t' : TE} (h : PE X e t) (f : ∀ σ H Q, t' σ H Q → t σ H Q) : PE X e t' := ⟨fun pins s σ H Q I q => h.run pins s σ H Q I (f σ H Q q)⟩
theorem pt_imp {X : Cx} {e : Expr} {t t' : TT} (h : PT X e t) (f : ∀ σ H Q, t' σ H Q → t σ H Q) : PT X e t' := ⟨fun pins s σ H Q I q => h.run pins s σ H Q I (f σ H Q q)⟩
theorem pw_imp {X : Cx} {e : Expr} {t t' : TT} (h : PW X e t) (f : ∀ σ H Q, t' σ H Q → t σ H Q) : PW X e t' := ⟨fun wh pins s σ H Q I q => h.run wh pins s σ H Q I (f σ H Q q)⟩
theorem pa_imp {X : Cx} {e : List Expr} {t t' : TA} (h : PA X e t) (f : ∀ σ H Q, t' σ H Q → t σ H Q) : PA X e t' := ⟨fun pos pins s σ H Q I q => h.run pos pins s σ H Q I (f σ H Q q)⟩
theorem ps_imp {X : Cx} {e : Stmt} {t t' : TS} (h : PS X e t) (f : ∀ D σ H, t' D σ H → t D σ H) : PS X e t' := ⟨fun pins s σ H D I q => h.run pins s σ H D I (f D σ H q)⟩
theorem pss_imp {X : Cx} {e : List Stmt} {t t' : TS} (h : PSs X e t) (f : ∀ D σ H, t' D σ H → t D σ H) : PSs X e t' := ⟨fun pins s σ H D I q => h.run pins s σ H D I (f D σ H q)⟩
/-! ### the state changes -/
section
variable {K : PySem.W.Frag} {C : Ctx} {W W' : Vw} {σ : L2.St} {H : Hp} {s : S} {p a : Addr} {o : HO} {vs : List V} {ds xs : List PV} {d : PV} {v : V} {i : Nat}
theorem MRep.some {mo : MO} (r : MRep K W H a mo) : ∃ o, H a = Option.some o := by
  cases r with
  | dic e k => exact ⟨_, e⟩
  | ins c e => exact ⟨_, e⟩
  | own n e => exact ⟨_, e⟩
  | dtt e k => exact ⟨_, e⟩
theorem Okk.some {st : List MO} {n : Nat} (h : Okk K W st H) (e : W.hs[n]? = Option.some a) : H a ≠ none := by
  rcases h.hnd n a e with ⟨_, mo, _, mr⟩ | ⟨f, _⟩
  · obtain ⟨o, e⟩ := mr.some
    rw [e]
    exact fun z => nomatch z
  · cases z : W.F a with
    | none => exact absurd z f
    | some o =>
      rw [h.sub a o z]
      exact fun z => nomatch z
theorem Okk.live {st : List MO} {n : Nat} {mo : MO} (h : Okk K W st H) (e : W.hs[n]? = Option.some a) (hs : st[n]? = Option.some mo) (hm : mo ≠ .gone) : W.F a = none ∧ MRep K W H a mo := by
  rcases h.hnd n a e with ⟨f, mo', e', mr⟩ | ⟨_, g⟩
  · rw [hs] at e'
    cases e'
    exact ⟨f, mr⟩
  · rw [hs] at g
    exact absurd (Option.some.inj g) hm
theorem At.fresh (h : At K C W s σ H) (hp : H p = none) : W.F p = none ∧ p ∉ W.hs ∧ C.G p = none := by
  refine ⟨h.ok.sub.free hp, fun hm => ?_, ?_⟩
  · obtain ⟨n, hn⟩ := List.getElem?_of_mem hm
    exact h.ok.some hn hp
  · cases e : C.G p with
    | none => rfl
    | some o =>
      by_cases hm : p ∈ C.hs0
      · obtain ⟨n, hn⟩ := List.getElem?_of_mem hm
        exact absurd hp (h.ok.some (h.pre n p hn))
      · have := h.keep p o e hm
        rw [hp] at this
        cases this
theorem MRep.mono {mo : MO} (l : W.Le W') (r : MRep K W H a mo) : MRep K W' H a mo := by
  cases r with
  | dic e k => exact .dic e (k.mono l)
  | ins c e n m k r => exact .ins c e (l.pre _ _ n) (l.pre _ _ m) k (r.mono l)
  | own n e => exact .own (l.pre _ _ n) e
  | dtt e k => exact .dtt e (k.mono l)
theorem MRep.at {mo : MO} {H' : Hp} (r : MRep K W H a mo) (e' : H' a = H a) : MRep K W H' a mo := by
  cases r with
  | dic e k => exact .dic (e'.trans e) k
  | ins c e n m k r => exact .ins c (e'.trans e) n m k r
  | own n e => exact .own n (e'.trans e)
  | dtt e k => exact .dtt (e'.trans e) k
theorem MRep.other {mo : MO} (r : MRep K W H a mo) (n : a ≠ p) : MRep K W (upd H p o) a mo := r.at (upd_ne n)
theorem Hd.map {st st' : List MO} {H' : Hp} {n m : Nat} (h : Hd K W st H n a) (hF : W'.F a = W.F a) (hs : st'[m]? = st[n]?) (f : ∀ mo, MRep K W H a mo → MRep K W' H' a mo) : Hd K W' st' H' m a := by
  rcases h with ⟨g1, mo, g2, g3⟩ | ⟨g1, g2⟩
  · exact .inl ⟨hF.trans g1, mo, hs.trans g2, f mo g3⟩
  · exact .inr ⟨by rw [hF]; exact g1, hs.trans g2⟩
/-- a new object laid and frozen at once -/
theorem At.lay (h : At K C W s σ H) (hp : H p = none) (o : HO) : W.Le ⟨upd W.F p o, W.hs⟩ ∧ At K C ⟨upd W.F p o, W.hs⟩ s σ (upd H p o) := by
  obtain ⟨f1, f2, f3⟩ := h.fresh hp
  have le : W.Le ⟨upd W.F p o, W.hs⟩ := ⟨fun b u e => by show upd W.F p o b = some u; rw [upd_ne (ne_of_none e f1)]; exact e, fun _ _ e => e⟩
  refine ⟨le, ⟨⟨fun b u e => ?_, fun n b e => ?_, h.ok.nd, h.ok.len⟩, fun b u e hb => ?_, h.pre, fun b hb => ?_, h.len, fun j d e => ?_, fun j ys e => ?_, h.dst⟩⟩
  · have e : upd W.F p o b = some u := e
    by_cases hb : b = p
    · subst hb
      rw [upd_same] at e ⊢
      exact e
    · rw [upd_ne hb] at e ⊢
      exact h.ok.sub b u e
  · have hb : b ≠ p := fun z => f2 (z ▸ List.mem_of_getElem? e)
    exact (h.ok.hnd n b e).map (by show upd W.F p o b = _; rw [upd_ne hb]) rfl fun mo g3 => (g3.other hb).mono le
  · have hb' : b ≠ p := fun z => by rw [z, f3] at e; cases e
    rw [upd_ne hb']
    exact h.keep b u e hb
  · obtain ⟨r1, r2⟩ := h.gro b hb
    exact ⟨by show upd W.F p o b = _; rw [upd_ne (fun z => hb (by rw [z]; exact f3))]; exact r1, r2⟩
  · obtain ⟨v, e1, r⟩ := h.val j d e
    exact ⟨v, e1, r.mono le⟩
  · obtain ⟨b, ws, e1, ow, e2, r⟩ := h.own j ys e
    have hb : b ≠ p := ne_of_none e2 hp
    exact ⟨b, ws, e1, ⟨by show upd W.F p o b = _; rw [upd_ne hb]; exact ow.f, ow.h, ow.g⟩, by rw [upd_ne hb]; exact e2, r.mono le⟩
theorem At.layT (h : At K C W s σ H) (hp : H p = none) (r : Reps K W vs ds) : ∃ W', W.Le W' ∧ At K C W' s σ (upd H p (.tup vs)) ∧ Rep K W' (.ref p) (.tup ds) := by
  obtain ⟨l, h'⟩ := h.lay hp (.tup vs)
  exact ⟨_, l, h', .tup (SqT.of upd_same) (r.mono l)⟩
theorem At.layL (h : At K C W s σ H) (hp : H p = none) (r : Reps K W vs ds) : ∃ W', W.Le W' ∧ At K C W' s σ (upd H p (.lst vs)) ∧ Rep K W' (.ref p) (.lst ds) := by
  obtain ⟨l, h'⟩ := h.lay hp (.lst vs)
  exact ⟨_, l, h', .lst upd_same (r.mono l)⟩
/-- a value stored in a slot -/
theorem At.set (h : At K C W s σ H) (r : Rep K W v d) (i : Nat) : At K C W { s with env := s.env.set i (some (.val d)) } (σ.set i (some v)) H := by
  refine ⟨h.ok, h.keep, h.pre, h.gro, by rw [List.length_set, List.length_set]; exact h.len, fun j e he => ?_, fun j ys he => ?_, fun j k ys zs a h1 h2 h3 h4 => ?_⟩
  · by_cases hj : i = j
    · subst hj
      have hi : i < s.env.length := by
        have := (List.getElem?_eq_some_iff.mp he).1
        rwa [List.length_set] at this
      rw [List.getElem?_set_self hi] at he
      cases he
      exact ⟨v, List.getElem?_set_self (by rw [h.len]; exact hi), r⟩
    · rw [List.getElem?_set_ne hj] at he
      rw [List.getElem?_set_ne hj]
      exact h.val j e he
  · by_cases hj : i = j
    · subst hj
      have hi : i < s.env.length := by
        have := (List.getElem?_eq_some_iff.mp he).1
        rwa [List.length_set] at this
      rw [List.getElem?_set_self hi] at he
      cases he
    · rw [List.getElem?_set_ne hj] at he
      rw [List.getElem?_set_ne hj]
      exact h.own j ys he
  · have ne : ∀ {m : Nat} {ws : List PV}, (s.env.set i (some (.val d)))[m]? = some (some (.own ws)) → i ≠ m := fun {m ws} he hm => by
      subst hm
      have hi : i < s.env.length := by
        have := (List.getElem?_eq_some_iff.mp he).1
        rwa [List.length_set] at this
      rw [List.getElem?_set_self hi] at he
      cases he
    have n1 := ne h1
    have n2 := ne h2
    rw [List.getElem?_set_ne n1] at h1 h3
    rw [List.getElem?_set_ne n2] at h2 h4
    exact h.dst j k ys zs a h1 h2 h3 h4
/-- a new list stored in a slot: the slot owns it -/
theorem At.setO (h : At K C W s σ H) (hp : H p = none) (r : Reps K W vs ds) (i : Nat) : At K C W { s with env := s.env.set i (some (.own ds)) } (σ.set i (some (.ref p))) (upd H p (.lst vs)) := by
  obtain ⟨f1, f2, f3⟩ := h.fresh hp
  have old : ∀ {j : Nat} {ys : List PV}, s.env[j]? = some (some (.own ys)) → σ[j]? = some (some (.ref p)) → False := fun {j ys} e z => by
    obtain ⟨b, ws, e1, _, e2, _⟩ := h.own j ys e
    rw [z] at e1
    cases e1
    rw [hp] at e2
    cases e2
  refine ⟨⟨fun b u e => ?_, fun n b e => ?_, h.ok.nd, h.ok.len⟩, fun b u e hb => ?_, h.pre, h.gro, by rw [List.length_set, List.length_set]; exact h.len, fun j e he => ?_, fun j ys he => ?_, fun j k ys zs a h1 h2 h3 h4 => ?_⟩
  · rw [upd_ne (ne_of_none e f1)]
    exact h.ok.sub b u e
  · exact (h.ok.hnd n b e).map rfl rfl fun mo g3 => g3.other fun z => f2 (z ▸ List.mem_of_getElem? e)
  · rw [upd_ne (fun z => by rw [z, f3] at e; cases e)]
    exact h.keep b u e hb
  · by_cases hj : i = j
    · subst hj
      have hi : i < s.env.length := by
        have := (List.getElem?_eq_some_iff.mp he).1
        rwa [List.length_set] at this
      rw [List.getElem?_set_self hi] at he
      cases he
    · rw [List.getElem?_set_ne hj] at he
      rw [List.getElem?_set_ne hj]
      exact h.val j e he
  · by_cases hj : i = j
    · subst hj
      have hi : i < s.env.length := by
        have := (List.getElem?_eq_some_iff.mp he).1
        rwa [List.length_set] at this
      rw [List.getElem?_set_self hi] at he
      cases he
      exact ⟨p, vs, List.getElem?_set_self (by rw [h.len]; exact hi), ⟨f1, f2, f3⟩, upd_same, r⟩
    · rw [List.getElem?_set_ne hj] at he
      rw [List.getElem?_set_ne hj]
      obtain ⟨b, ws, e1, ow, e2, r2⟩ := h.own j ys he
      exact ⟨b, ws, e1, ow, by rw [upd_ne (ne_of_none e2 hp)]; exact e2, r2⟩
  · have hi : i < s.env.length ∨ ¬ i < s.env.length := Nat.lt_or_ge _ _ |>.imp id (fun z => by omega)
    by_cases hj : i = j
    · by_cases hk : i = k
      · exact hj.symm.trans hk
      · subst hj
        have hil : i < s.env.length := by
          have := (List.getElem?_eq_some_iff.mp h1).1
          rwa [List.length_set] at this
        rw [List.getElem?_set_self (by rw [h.len]; exact hil)] at h3
        cases h3
        rw [List.getElem?_set_ne hk] at h2 h4
        exact (old h2 h4).elim
    · by_cases hk : i = k
      · subst hk
        have hil : i < s.env.length := by
          have := (List.getElem?_eq_some_iff.mp h2).1
          rwa [List.length_set] at this
        rw [List.getElem?_set_self (by rw [h.len]; exact hil)] at h4
        cases h4
        rw [List.getElem?_set_ne hj] at h1 h3
        exact (old h1 h3).elim
      · rw [List.getElem?_set_ne hj] at h1 h3
        rw [List.getElem?_set_ne hk] at h2 h4
        exact h.dst j k ys zs a h1 h2 h3 h4
/-- an owned list frozen where it stands -/
theorem At.freeze (h : At K C W s σ H) (he : s.env[i]? = some (some (.own xs))) : ∃ W' a, σ[i]? = some (some (.ref a)) ∧ W.Le W' ∧ At K C W' { s with env := s.env.set i (some (.val (.lst xs))) } σ H ∧ Rep K W' (.ref a) (.lst xs) := by
  obtain ⟨a, vs, e1, ow, e2, r⟩ := h.own i xs he
  have le : W.Le ⟨upd W.F a (.lst vs), W.hs⟩ := ⟨fun b u e => by show upd W.F a (.lst vs) b = some u; rw [upd_ne (ne_of_none e ow.f)]; exact e, fun _ _ e => e⟩
  have ra : Rep K ⟨upd W.F a (.lst vs), W.hs⟩ (.ref a) (.lst xs) := .lst upd_same (r.mono le)
  have hi : i < s.env.length := (List.getElem?_eq_some_iff.mp he).1
  refine ⟨⟨upd W.F a (.lst vs), W.hs⟩, a, e1, le, ⟨⟨fun b u e => ?_, fun n b e => ?_, h.ok.nd, h.ok.len⟩, h.keep, h.pre, fun b hb => ?_, by rw [List.length_set]; exact h.len, fun j e hj => ?_, fun j ys hj => ?_, fun j k ys zs b h1 h2 h3 h4 => ?_⟩, ra⟩
  · by_cases hb : b = a
    · subst hb
      have e' : upd W.F b (.lst vs) b = some u := e
      rw [upd_same] at e'
      rw [e2]
      exact e'
    · have e' : upd W.F a (.lst vs) b = some u := e
      rw [upd_ne hb] at e'
      exact h.ok.sub b u e'
  · have hb : b ≠ a := fun z => ow.h (z ▸ List.mem_of_getElem? e)
    exact (h.ok.hnd n b e).map (by show upd W.F a (.lst vs) b = _; rw [upd_ne hb]) rfl fun mo g3 => g3.mono le
  · obtain ⟨r1, r2⟩ := h.gro b hb
    exact ⟨by show upd W.F a (.lst vs) b = _; rw [upd_ne (fun z => hb (by rw [z]; exact ow.g))]; exact r1, r2⟩
  · by_cases hij : i = j
    · subst hij
      rw [List.getElem?_set_self hi] at hj
      cases hj
      exact ⟨.ref a, e1, ra⟩
    · rw [List.getElem?_set_ne hij] at hj
      obtain ⟨v, e3, r3⟩ := h.val j e hj
      exact ⟨v, e3, r3.mono le⟩
  · have hij : i ≠ j := fun z => by
      subst z
      rw [List.getElem?_set_self hi] at hj
      cases hj
    rw [List.getElem?_set_ne hij] at hj
    obtain ⟨b, ws, e3, ow3, e4, r4⟩ := h.own j ys hj
    have hb : b ≠ a := fun z => by
      subst z
      exact hij (h.dst i j xs ys b he hj e1 e3)
    exact ⟨b, ws, e3, ⟨by show upd W.F a (.lst vs) b = _; rw [upd_ne hb]; exact ow3.f, ow3.h, ow3.g⟩, e4, r4.mono le⟩
  · have ne : ∀ {m : Nat} {ws : List PV}, (s.env.set i (some (.val (.lst xs))))[m]? = some (some (.own ws)) → i ≠ m := fun {m ws} e z => by
      subst z
      rw [List.getElem?_set_self hi] at e
      cases e
    have n1 := ne h1
    have n2 := ne h2
    rw [List.getElem?_set_ne n1] at h1
    rw [List.getElem?_set_ne n2] at h2
    exact h.dst j k ys zs b h1 h2 h3 h4
/-- an owned list changed -/
theorem At.change (h : At K C W s σ H) (he : s.env[i]? = some (some (.own xs))) (hσ : σ[i]? = some (some (.ref a))) (r : Reps K W vs ds) : At K C W { s with env := s.env.set i (some (.own ds)) } σ (upd H a (.lst vs)) := by
  obtain ⟨a', vs', e1, ow, e2, _⟩ := h.own i xs he
  rw [hσ] at e1
  cases e1
  have hi : i < s.env.length := (List.getElem?_eq_some_iff.mp he).1
  refine ⟨⟨fun b u e => ?_, fun n b e => ?_, h.ok.nd, h.ok.len⟩, fun b u e hb => ?_, h.pre, h.gro, by rw [List.length_set]; exact h.len, fun j e hj => ?_, fun j ys hj => ?_, fun j k ys zs b h1 h2 h3 h4 => ?_⟩
  · rw [upd_ne (ne_of_none e ow.f)]
    exact h.ok.sub b u e
  · exact (h.ok.hnd n b e).map rfl rfl fun mo g3 => g3.other fun z => ow.h (z ▸ List.mem_of_getElem? e)
  · rw [upd_ne (fun z => by rw [z, ow.g] at e; cases e)]
    exact h.keep b u e hb
  · have hij : i ≠ j := fun z => by
      subst z
      rw [List.getElem?_set_self hi] at hj
      cases hj
    rw [List.getElem?_set_ne hij] at hj
    exact h.val j e hj
  · by_cases hij : i = j
    · subst hij
      rw [List.getElem?_set_self hi] at hj
      cases hj
      exact ⟨a, vs, hσ, ow, upd_same, r⟩
    · rw [List.getElem?_set_ne hij] at hj
      obtain ⟨b, ws, e3, ow3, e4, r4⟩ := h.own j ys hj
      have hb : b ≠ a := fun z => by
        subst z
        exact hij (h.dst i j xs ys b he hj hσ e3)
      exact ⟨b, ws, e3, ow3, by rw [upd_ne hb]; exact e4, r4⟩
  · have old : ∀ {m : Nat} {ws : List PV}, (s.env.set i (some (.own ds)))[m]? = some (some (.own ws)) → ∃ ws', s.env[m]? = some (some (.own ws')) := fun {m ws} e => by
      by_cases z : i = m
      · subst z; exact ⟨xs, he⟩
      · rw [List.getElem?_set_ne z] at e
        exact ⟨ws, e⟩
    obtain ⟨y1, g1⟩ := old h1
    obtain ⟨y2, g2⟩ := old h2
    exact h.dst j k y1 y2 b g1 g2 h3 h4
end
end Dn
/-! Den2: expressions. -/
namespace Dn
open PySem L2
/-- a value that may be read where one stands -/
inductive RdV (K : PySem.W.Frag) (W : Vw) (H : Hp) : V → PV → Prop
  | rep {v : V} {d : PV} : Rep K W v d → RdV K W H v d
  | own {a : Addr} {vs : List V} {xs : List PV} : H a = some (.lst vs) → Reps K W vs xs → RdV K W H (.ref a) (.lst xs)
section
variable {Y : WX} {K : PySem.W.Frag} {C : Ctx} {W W' : Vw} {σ : L2.St} {H : Hp} {s : S} {v w : V} {d : PV}
theorem RdV.int {i : Int} (h : RdV K W H v (.int i)) : v = .int i := by
  cases h with
  | rep h => cases h; rfl
theorem RdV.str {i : Str} (h : RdV K W H v (.str i)) : v = .str i := by
  cases h with
  | rep h => cases h; rfl
theorem RdV.bl {i : Bool} (h : RdV K W H v (.bl i)) : v = .bl i := by
  cases h with
  | rep h => cases h; rfl
theorem RdV.non (h : RdV K W H v .non) : v = .non := by
  cases h with
  | rep h => cases h; rfl
theorem RdV.tup {ds : List PV} (e : Same W.F H) (h : RdV K W H v (.tup ds)) : ∃ a vs, v = .ref a ∧ SqT K W.F a vs ∧ SqT K H a vs ∧ Reps K W vs ds := by
  cases h with
  | rep h => cases h with
    | tup h r => exact ⟨_, _, rfl, h, same_t e h, r⟩
theorem RdV.lst {ds : List PV} (e : Same W.F H) (h : RdV K W H v (.lst ds)) : ∃ a vs, v = .ref a ∧ H a = some (.lst vs) ∧ Reps K W vs ds := by
  cases h with
  | rep h => cases h with
    | lst h r => exact ⟨_, _, rfl, e _ _ h, r⟩
  | own h r => exact ⟨_, _, rfl, h, r⟩
theorem RdV.scr {ns : List Int} (e : Same W.F H) (h : RdV K W H v (.scr ns)) : ∃ a, v = .ref a ∧ SqL K H a (ns.map V.int) := by
  cases h with
  | rep h => cases h with
    | scr h => exact ⟨_, rfl, e.seq h⟩
theorem RdV.hnd {n : Nat} (h : RdV K W H v (.hnd n)) : ∃ a, v = .ref a ∧ W.hs[n]? = some a := by
  cases h with
  | rep h => cases h with
    | hnd h => exact ⟨_, rfl, h⟩
/-! ### as the library's data -/
mutual
def PV.toD : PV → Option PyData
  | .non => some .none
  | .bl b => some (.bool b)
  | .int i => some (.int i)
  | .str x => some (.str x)
  | .tup xs => (PV.toDs xs).map .tuple
  | .lst xs => (PV.toDs xs).map .list
  | .scr ns => some (.list (ns.map .int))
  | .hnd _ => none
  | .obj _ _ _ => none
  | .exn _ _ _ => none
  | .dic _ => none
  | .dct _ _ => none
  | .kt _ => none
def PV.toDs : List PV → Option (List PyData)
  | [] => some []
  | x :: xs => match PV.toD x, PV.toDs xs with
    | some d, some ds => some (d :: ds)
    | _, _ => none
end
theorem dp_ints (H : Hp) : ∀ ns : List Int, DpAll K H (ns.map V.int) (ns.map PyData.int)
  | [] => .nil
  | n :: ns => .cons (.int n) (dp_ints H ns)
mutual
theorem dp_of (e : Same W.F H) : ∀ {v : V} {d : PV} {x : PyData}, Rep K W v d → d.toD = some x → Dp K H v x
  | _, _, _, .non, h => by cases h; exact .non
  | _, _, _, .bl b, h => by cases h; exact .bl b
  | _, _, _, .int i, h => by cases h; exact .int i
  | _, _, _, .str i, h => by cases h; exact .str i
  | _, .tup ds, x, .tup hq r, h => by
    have h : (PV.toDs ds).map PyData.tuple = some x := by rw [← h, PV.toD]
    obtain ⟨ys, e1, rfl⟩ := Option.map_eq_some_iff.mp h
    exact .tup (same_t e hq) (dps_of e r e1)
  | _, .lst ds, x, .lst hq r, h => by
    have h : (PV.toDs ds).map PyData.list = some x := by rw [← h, PV.toD]
    obtain ⟨ys, e1, rfl⟩ := Option.map_eq_some_iff.mp h
    exact .lst (SqL.of (e _ _ hq)) (dps_of e r e1)
  | _, .scr ns, x, .scr hq, h => by
    have h : some (PyData.list (ns.map .int)) = some x := by rw [← h, PV.toD]
    cases h
    exact .lst (e.seq hq) (dp_ints H ns)
  | _, .hnd n, x, .hnd hq, h => by
    have h : none = some x := by rw [← h, PV.toD]
    cases h
  | _, .obj c ks us, x, .obj .., h => by
    have h : none = some x := by rw [← h, PV.toD]
    cases h
  | _, .exn c ks us, x, .exn .., h => by
    have h : none = some x := by rw [← h, PV.toD]
    cases h
  | _, .dic us, x, .dic .., h => by
    have h : none = some x := by rw [← h, PV.toD]
    cases h
  | _, .dct ks us, x, .dct .., h => by
    have h : none = some x := by rw [← h, PV.toD]
    cases h
  | _, .kt ks, x, .kt .., h => by
    have h : none = some x := by rw [← h, PV.toD]
    cases h
theorem dps_of (e : Same W.F H) : ∀ {vs : List V} {ds : List PV} {xs : List PyData}, Reps K W vs ds → PV.toDs ds = some xs → DpAll K H vs xs
  | _, _, _, .nil, h => by
    rw [PV.toDs] at h
    cases h
    exact .nil
  | _, d :: ds, xs, .cons hq r, h => by
    rw [PV.toDs] at h
    split at h
    · rename_i y ys e1 e2
      cases h
      exact .cons (dp_of e hq e1) (dps_of e r e2)
    · cases h
end
theorem RdV.dp {x : PyData} (e : Same W.F H) (h : RdV K W H v d) (hd : d.toD = some x) : Dp K H v x := by
  cases h with
  | rep h => exact dp_of e h hd
  | @own a vs xs h r =>
    have hd : (PV.toDs xs).map PyData.list = some x := by rw [← hd, PV.toD]
    obtain ⟨ys, e1, rfl⟩ := Option.map_eq_some_iff.mp hd
    exact .lst (SqL.of h) (dps_of e r e1)
theorem Pst.lft' {α : Type} {o : Option α} {Q : α → S → Vw → Hp → Prop} (h : Pst K C W σ (Dn.lft o s) Q) : ∃ a, o = some a ∧ ∀ W' H', W.Le W' → At K C W' s σ H' → Q a s W' H' := by
  unfold Dn.lft at h
  cases o with
  | none => exact h.elim
  | some a => exact ⟨a, rfl, h⟩
end
/-! ### names -/
def SV.pv : SV → PV
  | .val d => d
  | .own xs => .lst xs
/-- a name read: what it owns is frozen -/
def var (i : Nat) : M PV := fun s => match s.env[i]? with
  | some (some (.val d)) => .ok d s
  | some (some (.own xs)) => .ok (.lst xs) { s with env := s.env.set i (some (.val (.lst xs))) }
  | _ => .stk
/-- a name looked at, in a place from which nothing escapes -/
def brw (i : Nat) : M PV := fun s => match s.env[i]? with
  | some (some sv) => .ok sv.pv s
  | _ => .stk
section
variable {Y : WX} {K : PySem.W.Frag} {C : Ctx} {W W' : Vw} {σ : L2.St} {H : Hp} {s : S} {v w : V} {d : PV} {Q : VK} {i : Nat} {ca cb : M PV}
theorem den_var (h : den K Y (var i) σ H Q) : tVar i σ H Q := by
  obtain ⟨C, W, s, at', p⟩ := h
  unfold var at p
  split at p
  · rename_i d e
    obtain ⟨v, e1, r⟩ := at'.val i d e
    exact ⟨v, e1, p W H (Vw.Le.refl W) at' v r⟩
  · rename_i xs e
    obtain ⟨W', a, e1, l, at2, r⟩ := at'.freeze e
    exact ⟨.ref a, e1, p W' H l at2 _ r⟩
  · exact p.elim
theorem At.look {sv : SV} (h : At K C W s σ H) (e : s.env[i]? = some (some sv)) : ∃ v, σ[i]? = some (some v) ∧ RdV K W H v sv.pv := by
  cases sv with
  | val d =>
    obtain ⟨v, e1, r⟩ := h.val i d e
    exact ⟨v, e1, .rep r⟩
  | own xs =>
    obtain ⟨a, vs, e1, ow, e2, r⟩ := h.own i xs e
    exact ⟨_, e1, .own e2 r⟩
theorem brw_ok {Q : PV → S → Vw → Hp → Prop} (h : At K C W s σ H) (p : Pst K C W σ (brw i s) Q) : ∃ sv v, s.env[i]? = some (some sv) ∧ σ[i]? = some (some v) ∧ RdV K W H v sv.pv ∧ Q sv.pv s W H := by
  unfold brw at p
  split at p
  · rename_i sv e
    obtain ⟨v, e1, r⟩ := h.look e
    exact ⟨sv, v, e, e1, r, p W H (Vw.Le.refl W) h⟩
  · exact p.elim
theorem den_ret (h : den K Y (ret d) σ H Q) (r : ∀ W, Rep K W v d) : tC v σ H Q := by
  obtain ⟨C, W, s, at', p⟩ := h
  exact p W H (Vw.Le.refl W) at' v (r W)
/-! ### operators -/
abbrev WantV (K : PySem.W.Frag) (Q : VK) : PV → S → Vw → Hp → Prop := fun d _ W' H' => ∀ v, Rep K W' v d → Q v H'
abbrev WantL (K : PySem.W.Frag) (Q : VK) : List PV → S → Vw → Hp → Prop := fun ds _ W' H' => ∀ p vs, H' p = none → Reps K W' vs ds → Q (.ref p) (upd H' p (.lst vs))
def bin (ca cb : M PV) (op : PV → PV → M PV) : M PV := bnd ca fun a => bnd cb fun b => op a b
/-- the left one a name, looked at -/
def chk (i : Nat) : M Unit := fun s => match s.env[i]? with
  | some (some _) => .ok () s
  | _ => .stk
def binL (i : Nat) (cb : M PV) (op : PV → PV → M PV) : M PV := bnd (chk i) fun _ => bnd cb fun b => bnd (brw i) fun a => op a b
def Bin (r : R2) (K : PySem.W.Frag) (op : PV → PV → M PV) : Prop := ∀ (C : Ctx) (W : Vw) (s : S) (σ : L2.St) (H : Hp) (v w : V) (a b : PV) (Q : VK), At K C W s σ H → RdV K W H v a → RdV K W H w b → Pst K C W σ (op a b s) (WantV K Q) → r v w H Q
theorem den_bin {r : R2} {op : PV → PV → M PV} (hb : Bin r K op) (h : den K Y (bin ca cb op) σ H Q) : tOp r (den K Y ca) (den K Y cb) σ H Q := by
  obtain ⟨C, W, s, at', p⟩ := h
  refine ⟨C, W, s, at', (Pst.bnd p).imp fun a s1 W1 H1 l1 at1 p1 v rv => ⟨C, W1, s1, at1, (Pst.bnd p1).imp fun b s2 W2 H2 l2 at2 p2 w rw' => ?_⟩⟩
  exact hb _ W2 s2 σ H2 v w a b Q at2 (.rep (rv.mono l2)) (.rep rw') p2
theorem chk_ok {α : Type} {f : Unit → M α} {Q : α → S → Vw → Hp → Prop} (h : At K C W s σ H) (p : Pst K C W σ (bnd (chk i) f s) Q) : (∃ v, σ[i]? = some (some v)) ∧ Pst K C W σ (f () s) Q := by
  unfold bnd chk at p
  cases e : s.env[i]? with
  | none => rw [e] at p; exact p.elim
  | some o =>
    cases o with
    | none => rw [e] at p; exact p.elim
    | some sv =>
      rw [e] at p
      obtain ⟨v, e1, _⟩ := h.look e
      exact ⟨⟨v, e1⟩, p⟩
theorem den_binL {r : R2} {op : PV → PV → M PV} (hb : Bin r K op) (h : den K Y (binL i cb op) σ H Q) : tOp r (tVar i) (den K Y cb) σ H Q := by
  obtain ⟨C, W, s, at', p⟩ := h
  obtain ⟨⟨v, e⟩, p⟩ := chk_ok at' p
  refine ⟨v, e, C, W, s, at', (Pst.bnd p).imp fun b s2 W2 H2 l2 at2 p2 w rw' => ?_⟩
  obtain ⟨sv, v', _, e', rv, p3⟩ := brw_ok at2 (Pst.bnd p2)
  rw [e] at e'
  cases e'
  exact hb _ W2 s2 σ H2 v w _ b Q at2 rv (.rep rw') p3
/-! ### arithmetic -/
instance (i j : Int) : Decidable (CDivW i j) := inferInstanceAs (Decidable (_ ∧ _))
instance (i j : Int) : Decidable (CMulW i j) := inferInstanceAs (Decidable (_ < _))
instance (i j : Int) : Decidable (CPow i j) := inferInstanceAs (Decidable (_ ∧ _ ∧ _))
def addP : PV → PV → Option PV
  | .int a, .int b => some (.int (a + b))
  | .str a, .str b => if a.length + b.length ≤ sizeLine then some (.str (a ++ b)) else none
  | .tup a, .tup b => if a.length + b.length ≤ sizeLine then some (.tup (a ++ b)) else none
  | .lst a, .lst b => if a.length + b.length ≤ sizeLine then some (.lst (a ++ b)) else none
  | _, _ => none
def subP : PV → PV → Option PV
  | .int a, .int b => some (.int (a - b))
  | _, _ => none
def mulP : PV → PV → Option PV
  | .int a, .int b => if CMulW a b then some (.int (a * b)) else none
  | .lst a, .int k => if (-(2 ^ 63) ≤ k ∧ k < 2 ^ 63) ∧ a.length * k.toNat ≤ sizeLine then some (.lst (List.replicate k.toNat a).flatten) else none
  | _, _ => none
def fdivP : PV → PV → Option PV
  | .int a, .int b => if CDivW a b then some (.int (a / b)) else none
  | _, _ => none
def modP : PV → PV → Option PV
  | .int a, .int b => if 0 < b then some (.int (a % b)) else none
  | _, _ => none
def powP : PV → PV → Option PV
  | .int a, .int b => if CPow a b then some (.int (a ^ b.toNat)) else none
  | _, _ => none
def rOr (r q : R2) : R2 := fun x y H Q => r x y H Q ∨ q x y H Q
theorem op_or2 {X : Cx} {f : Value → Value → Sem Value} {r q : R2} (h : OpR X f r) (k : OpR X f q) : OpR X f (rOr r q) := by
  intro pins s σ H x y v u Q I rx ry h'
  rcases h' with h' | h'
  · exact h pins s σ H x y v u Q I rx ry h'
  · exact k pins s σ H x y v u Q I rx ry h'
abbrev rStr2 : R2 := fun x y H Q => ∃ i j, x = .str i ∧ y = .str j ∧ i.length + j.length ≤ sizeLine ∧ Q (.str (i ++ j)) H
def rAddU (K : PySem.W.Frag) : R2 := rOr (rOr (rI0 fun i j => .int (i + j)) rStr2) (rOr (rCatA K) rCat)
theorem op_addU {X : Cx} : OpR X (binaryOp .Add) (rAddU X.K) := op_or2 (op_or2 op_add op_add_str) (op_or2 op_catA op_cat)
theorem bin_add : Bin (rAddU K) K (fun a b => lft (addP a b)) := by
  intro C W s σ H v w a b Q at' ra rb p
  obtain ⟨d, e, q⟩ := p.lft'
  have q0 := q W H (Vw.Le.refl W) at'
  unfold addP at e
  split at e
  · cases e
    cases ra.int
    cases rb.int
    exact .inl (.inl ⟨_, _, rfl, rfl, q0 _ (.int _)⟩)
  · split at e
    · cases e
      cases ra.str
      cases rb.str
      exact .inl (.inr ⟨_, _, rfl, rfl, by assumption, q0 _ (.str _)⟩)
    · cases e
  · split at e
    · rename_i hl
      cases e
      obtain ⟨x, vs, rfl, hx, hx2, rx⟩ := ra.tup at'.ok.sub
      obtain ⟨y, ws, rfl, hy, hy2, ry⟩ := rb.tup at'.ok.sub
      refine .inr (.inl ⟨x, y, vs, ws, rfl, rfl, hx2, hy2, by rw [rx.length, ry.length]; exact hl, fun e1 => ?_, fun _ e1 => ?_, fun _ _ p hp => ?_⟩)
      · subst e1
        cases rx
        exact q0 _ (.tup hy ry)
      · subst e1
        cases ry
        rw [List.append_nil] at q0
        exact q0 _ (.tup hx rx)
      · obtain ⟨W', l, at2, r2⟩ := at'.layT hp (rx.append ry)
        exact q W' _ l at2 _ r2
    · cases e
  · split at e
    · rename_i hl
      cases e
      obtain ⟨x, vs, rfl, hx, rx⟩ := ra.lst at'.ok.sub
      obtain ⟨y, ws, rfl, hy, ry⟩ := rb.lst at'.ok.sub
      refine .inr (.inr ⟨x, y, vs, ws, rfl, rfl, hx, hy, by rw [rx.length, ry.length]; exact hl, fun p hp => ?_⟩)
      obtain ⟨W', l, at2, r2⟩ := at'.layL hp (rx.append ry)
      exact q W' _ l at2 _ r2
    · cases e
  · cases e
theorem bin_sub : Bin (rI0 fun i j => .int (i - j)) K (fun a b => lft (subP a b)) := by
  intro C W s σ H v w a b Q at' ra rb p
  obtain ⟨d, e, q⟩ := p.lft'
  have q0 := q W H (Vw.Le.refl W) at'
  unfold subP at e
  split at e
  · cases e
    cases ra.int
    cases rb.int
    exact ⟨_, _, rfl, rfl, q0 _ (.int _)⟩
  · cases e
theorem bin_mul : Bin (rOr (rI CMulW fun i j => .int (i * j)) rRep) K (fun a b => lft (mulP a b)) := by
  intro C W s σ H v w a b Q at' ra rb p
  obtain ⟨d, e, q⟩ := p.lft'
  have q0 := q W H (Vw.Le.refl W) at'
  unfold mulP at e
  split at e
  · split at e
    · cases e
      cases ra.int
      cases rb.int
      exact .inl ⟨_, _, rfl, rfl, by assumption, q0 _ (.int _)⟩
    · cases e
  · split at e
    · rename_i hl
      cases e
      obtain ⟨x, vs, rfl, hx, rx⟩ := ra.lst at'.ok.sub
      cases rb.int
      refine .inr ⟨x, _, vs, rfl, rfl, hx, hl.1.1, hl.1.2, by rw [rx.length]; exact hl.2, fun p hp => ?_⟩
      obtain ⟨W', l, at2, r2⟩ := at'.layL hp (rx.rep _)
      exact q W' _ l at2 _ r2
    · cases e
  · cases e
theorem bin_fdiv : Bin (rI CDivW fun i j => .int (i / j)) K (fun a b => lft (fdivP a b)) := by
  intro C W s σ H v w a b Q at' ra rb p
  obtain ⟨d, e, q⟩ := p.lft'
  have q0 := q W H (Vw.Le.refl W) at'
  unfold fdivP at e
  split at e
  · split at e
    · cases e
      cases ra.int
      cases rb.int
      exact ⟨_, _, rfl, rfl, by assumption, q0 _ (.int _)⟩
    · cases e
  · cases e
theorem bin_mod : Bin (rI (fun _ j => 0 < j) fun i j => .int (i % j)) K (fun a b => lft (modP a b)) := by
  intro C W s σ H v w a b Q at' ra rb p
  obtain ⟨d, e, q⟩ := p.lft'
  have q0 := q W H (Vw.Le.refl W) at'
  unfold modP at e
  split at e
  · split at e
    · cases e
      cases ra.int
      cases rb.int
      exact ⟨_, _, rfl, rfl, by assumption, q0 _ (.int _)⟩
    · cases e
  · cases e
theorem bin_pow : Bin (rI CPow fun i j => .int (i ^ j.toNat)) K (fun a b => lft (powP a b)) := by
  intro C W s σ H v w a b Q at' ra rb p
  obtain ⟨d, e, q⟩ := p.lft'
  have q0 := q W H (Vw.Le.refl W) at'
  unfold powP at e
  split at e
  · split at e
    · cases e
      cases ra.int
      cases rb.int
      exact ⟨_, _, rfl, rfl, by assumption, q0 _ (.int _)⟩
    · cases e
  · cases e
/-! ### comparisons -/
def ordP (f : Int → Int → Bool) : PV → PV → Option PV
  | .int a, .int b => some (.bl (f a b))
  | _, _ => none
theorem bin_ord {f : Int → Int → Bool} : Bin (rI0 fun i j => .bl (f i j)) K (fun a b => lft (ordP f a b)) := by
  intro C W s σ H v w a b Q at' ra rb p
  obtain ⟨d, e, q⟩ := p.lft'
  have q0 := q W H (Vw.Le.refl W) at'
  unfold ordP at e
  split at e
  · cases e
    cases ra.int
    cases rb.int
    exact ⟨_, _, rfl, rfl, q0 _ (.bl _)⟩
  · cases e
def eqP (neg : Bool) (a b : PV) : Option PV := match a, b with
  | .str x, .str y => some (.bl (if neg then !(x == y) else x == y))
  | a, b => match a.toD, b.toD with
    | some x, some y => if SeqAt.shaped x = true ∧ SeqAt.shaped y = true then some (.bl (if neg then !PyData.eqv x y else PyData.eqv x y)) else none
    | _, _ => none
theorem bin_eq : Bin (rOr rEq (rEqD K)) K (fun a b => lft (eqP false a b)) := by
  intro C W s σ H v w a b Q at' ra rb p
  obtain ⟨d, e, q⟩ := p.lft'
  have q0 := q W H (Vw.Le.refl W) at'
  unfold eqP at e
  split at e
  · cases e
    cases ra.str
    cases rb.str
    exact .inl ⟨rfl, by rw [dec_str]; exact q0 _ (.bl _)⟩
  · split at e
    · rename_i x y hx hy
      split at e
      · rename_i hs
        cases e
        exact .inr ⟨x, y, ra.dp at'.ok.sub hx, rb.dp at'.ok.sub hy, hs.1, hs.2, q0 _ (.bl _)⟩
      · cases e
    · cases e
theorem bin_ne : Bin (rOr rNe (rNeD K)) K (fun a b => lft (eqP true a b)) := by
  intro C W s σ H v w a b Q at' ra rb p
  obtain ⟨d, e, q⟩ := p.lft'
  have q0 := q W H (Vw.Le.refl W) at'
  unfold eqP at e
  split at e
  · cases e
    cases ra.str
    cases rb.str
    exact .inl ⟨rfl, by rw [dec_str]; exact q0 _ (.bl _)⟩
  · split at e
    · rename_i x y hx hy
      split at e
      · rename_i hs
        cases e
        exact .inr ⟨x, y, ra.dp at'.ok.sub hx, rb.dp at'.ok.sub hy, hs.1, hs.2, q0 _ (.bl _)⟩
      · cases e
    · cases e
/-- a text among texts; data in a list of data -/
def strsOf : List PV → Option (List Str)
  | [] => some []
  | .str x :: r => (strsOf r).map (x :: ·)
  | _ :: _ => none
theorem strsOf_ok : ∀ {ds : List PV} {xs : List Str}, strsOf ds = some xs → ds = xs.map PV.str
  | [], xs, h => by cases h; rfl
  | .str x :: r, xs, h => by
    have h : (strsOf r).map (x :: ·) = some xs := h
    obtain ⟨ys, e, rfl⟩ := Option.map_eq_some_iff.mp h
    rw [strsOf_ok e]
    rfl
  | .non :: _, _, h => by cases h
  | .bl _ :: _, _, h => by cases h
  | .int _ :: _, _, h => by cases h
  | .tup _ :: _, _, h => by cases h
  | .lst _ :: _, _, h => by cases h
  | .scr _ :: _, _, h => by cases h
  | .hnd _ :: _, _, h => by cases h
  | .obj .. :: _, _, h => by cases h
  | .exn .. :: _, _, h => by cases h
  | .dic .. :: _, _, h => by cases h
  | .dct .. :: _, _, h => by cases h
  | .kt .. :: _, _, h => by cases h
theorem strsOf_map (xs : List Str) : strsOf (xs.map PV.str) = some xs := by
  induction xs with
  | nil => rfl
  | cons x r ih => show (strsOf (r.map PV.str)).map (x :: ·) = _; rw [ih]; rfl
theorem inV_strs (x : Str) (xs : List Str) : inV (.str x) (xs.map V.str) = decide (x ∈ xs) := by
  unfold inV
  rw [List.any_map]
  rw [Bool.eq_iff_iff, List.any_eq_true, decide_eq_true_eq]
  constructor
  · rintro ⟨y, hy, e⟩
    have e : (y == x) = true := e
    rw [← eq_of_beq e]
    exact hy
  · intro h
    exact ⟨x, h, by show (x == x) = true; exact beq_self_eq_true x⟩
theorem flat_strs (xs : List Str) : (xs.map V.str).all flatV = true := by
  rw [List.all_map, List.all_eq_true]
  intro x _
  rfl
def inP (neg : Bool) (a b : PV) : Option PV := match a, b with
  | .str ⟨⟨[c]⟩⟩, .str z => some (.bl (if neg then !decide (c ∈ z.cps.toList) else decide (c ∈ z.cps.toList)))
  | .str x, .tup ys => (strsOf ys).map fun xs => .bl (if neg then !decide (x ∈ xs) else decide (x ∈ xs))
  | a, .lst ys => match a.toD, PV.toDs ys with
    | some d, some ds => if SeqAt.shaped d = true ∧ SeqAt.shaped (.list ds) = true then some (.bl (if neg then !ds.any fun z => PyData.eqv z d else ds.any fun z => PyData.eqv z d)) else none
    | _, _ => none
  | _, _ => none
theorem bin_in : Bin (rOr (rOr (rIn K false) (rInD K)) (fun x y H Q => ∃ (c : Nat) (z : Str), x = .str ⟨#[c]⟩ ∧ y = .str z ∧ Q (.bl (decide (c ∈ z.cps.toList))) H)) K (fun a b => lft (inP false a b)) := by
  intro C W s σ H v w a b Q at' ra rb p
  obtain ⟨d, e, q⟩ := p.lft'
  have q0 := q W H (Vw.Le.refl W) at'
  unfold inP at e
  split at e
  · cases e
    cases ra.str
    cases rb.str
    exact .inr ⟨_, _, rfl, rfl, q0 _ (.bl _)⟩
  · rename_i x ys
    obtain ⟨xs, e1, rfl⟩ := Option.map_eq_some_iff.mp e
    cases ra.str
    obtain ⟨y, ws, rfl, hy, hy2, ry⟩ := rb.tup at'.ok.sub
    have ew := strsOf_ok e1
    subst ew
    have ew := ry.of_strs
    subst ew
    exact .inl (.inl ⟨y, _, rfl, .inr hy2, rfl, flat_strs xs, by rw [inV_strs]; exact q0 _ (.bl _)⟩)
  · rename_i ys _ _
    split at e
    · rename_i d' ds hd hds
      split at e
      · rename_i hs
        cases e
        exact .inl (.inr ⟨d', ds, ra.dp at'.ok.sub hd, rb.dp at'.ok.sub (by rw [PV.toD, hds]; rfl), hs.1, hs.2, q0 _ (.bl _)⟩)
      · cases e
    · cases e
  · cases e
theorem bin_notin : Bin (rOr (rOr (rIn K true) (rNotInD K)) (fun x y H Q => ∃ (c : Nat) (z : Str), x = .str ⟨#[c]⟩ ∧ y = .str z ∧ Q (.bl (!decide (c ∈ z.cps.toList))) H)) K (fun a b => lft (inP true a b)) := by
  intro C W s σ H v w a b Q at' ra rb p
  obtain ⟨d, e, q⟩ := p.lft'
  have q0 := q W H (Vw.Le.refl W) at'
  unfold inP at e
  split at e
  · cases e
    cases ra.str
    cases rb.str
    exact .inr ⟨_, _, rfl, rfl, q0 _ (.bl _)⟩
  · rename_i x ys
    obtain ⟨xs, e1, rfl⟩ := Option.map_eq_some_iff.mp e
    cases ra.str
    obtain ⟨y, ws, rfl, hy, hy2, ry⟩ := rb.tup at'.ok.sub
    have ew := strsOf_ok e1
    subst ew
    have ew := ry.of_strs
    subst ew
    exact .inl (.inl ⟨y, _, rfl, .inr hy2, rfl, flat_strs xs, by rw [inV_strs]; exact q0 _ (.bl _)⟩)
  · rename_i ys _ _
    split at e
    · rename_i d' ds hd hds
      split at e
      · rename_i hs
        cases e
        exact .inl (.inr ⟨d', ds, ra.dp at'.ok.sub hd, rb.dp at'.ok.sub (by rw [PV.toD, hds]; rfl), hs.1, hs.2, q0 _ (.bl _)⟩)
      · cases e
    · cases e
  · cases e
/-! ### subscripts -/
def ixP : PV → PV → Option PV
  | .lst xs, .int i => atI xs i
  | .tup xs, .int i => atI xs i
  | .str x, .int i => if x.length ≤ sizeLine then (atI x.cps.toList i).map fun c => .str ⟨#[c]⟩ else none
  | _, _ => none
theorem atI_rep {vs : List V} {ds : List PV} {i : Int} {d : PV} (r : Reps K W vs ds) (h : atI ds i = some d) : ∃ v, atI vs i = some v ∧ Rep K W v d := by
  unfold atI at h ⊢
  rw [r.length]
  obtain ⟨j, e, h⟩ := Option.bind_eq_some_iff.mp h
  obtain ⟨v, e2, r2⟩ := r.get h
  exact ⟨v, by rw [e]; exact e2, r2⟩
theorem bin_ix : Bin (rIx K) K (fun a b => lft (ixP a b)) := by
  intro C W s σ H v w a b Q at' ra rb p
  obtain ⟨d, e, q⟩ := p.lft'
  have q0 := q W H (Vw.Le.refl W) at'
  unfold ixP at e
  split at e
  · cases rb.int
    obtain ⟨x, vs, rfl, hx, rx⟩ := ra.lst at'.ok.sub
    obtain ⟨v, e1, r1⟩ := atI_rep rx e
    exact .inl ⟨x, vs, _, v, rfl, rfl, SqL.of hx, e1, q0 _ r1⟩
  · cases rb.int
    obtain ⟨x, vs, rfl, hx, hx2, rx⟩ := ra.tup at'.ok.sub
    obtain ⟨v, e1, r1⟩ := atI_rep rx e
    exact .inr (.inl ⟨x, vs, _, v, rfl, rfl, hx2, e1, q0 _ r1⟩)
  · split at e
    · cases rb.int
      cases ra.str
      obtain ⟨c, e1, rfl⟩ := Option.map_eq_some_iff.mp e
      exact .inr (.inr ⟨_, _, c, rfl, rfl, by assumption, e1, q0 _ (.str _)⟩)
    · cases e
  · cases e
end
end Dn
/-! Den3: tests, arguments, displays, slices, built-ins, methods, handles. -/
namespace Dn
open PySem L2
section
variable {Y : WX} {K : PySem.W.Frag} {C : Ctx} {W W' : Vw} {σ : L2.St} {H : Hp} {s : S} {v w : V} {d : PV} {Q : VK} {i : Nat} {ca cb : M PV}
/-! ### tests -/
def asB (c : M PV) : M Bool := bnd c fun d => match d with
  | .bl b => ret b
  | _ => stuck
theorem den_asB {QB : Bool → Hp → Prop} (h : denT K Y (asB ca) σ H QB) : den K Y ca σ H (fun x H1 => ∃ c, x = .bl c ∧ QB c H1) := by
  obtain ⟨C, W, s, at', p⟩ := h
  refine ⟨C, W, s, at', (Pst.bnd p).imp fun a s1 W1 H1 l1 at1 p1 v rv => ?_⟩
  cases a <;> try exact p1.elim
  cases rv
  exact ⟨_, rfl, p1 W1 H1 (Vw.Le.refl _) at1⟩
def andT (a b : M Bool) : M Bool := bnd a fun x => if x = true then b else ret false
def orT (a b : M Bool) : M Bool := bnd a fun x => if x = true then ret true else b
def notT (a : M Bool) : M Bool := bnd a fun x => ret (!x)
def iteT (t : M Bool) (a b : M PV) : M PV := bnd t fun x => if x = true then a else b
theorem den_and {a b : M Bool} {QB : Bool → Hp → Prop} (h : denT K Y (andT a b) σ H QB) : tAnd (denT K Y a) (denT K Y b) σ H QB := by
  obtain ⟨C, W, s, at', p⟩ := h
  refine ⟨C, W, s, at', (Pst.bnd p).imp fun x s1 W1 H1 l1 at1 p1 => ?_⟩
  cases x with
  | true => exact ⟨C, W1, s1, at1, p1⟩
  | false => exact p1 W1 H1 (Vw.Le.refl _) at1
theorem den_or {a b : M Bool} {QB : Bool → Hp → Prop} (h : denT K Y (orT a b) σ H QB) : tOr (denT K Y a) (denT K Y b) σ H QB := by
  obtain ⟨C, W, s, at', p⟩ := h
  refine ⟨C, W, s, at', (Pst.bnd p).imp fun x s1 W1 H1 l1 at1 p1 => ?_⟩
  cases x with
  | false => exact ⟨C, W1, s1, at1, p1⟩
  | true => exact p1 W1 H1 (Vw.Le.refl _) at1
theorem den_not {a : M Bool} {QB : Bool → Hp → Prop} (h : denT K Y (notT a) σ H QB) : tNot (denT K Y a) σ H QB := by
  obtain ⟨C, W, s, at', p⟩ := h
  exact ⟨C, W, s, at', (Pst.bnd p).imp fun x s1 W1 H1 l1 at1 p1 => p1 W1 H1 (Vw.Le.refl _) at1⟩
theorem den_ite {t : M Bool} (h : den K Y (iteT t ca cb) σ H Q) : tIf (denT K Y t) (den K Y ca) (den K Y cb) σ H Q := by
  obtain ⟨C, W, s, at', p⟩ := h
  refine ⟨C, W, s, at', (Pst.bnd p).imp fun x s1 W1 H1 l1 at1 p1 => ?_⟩
  cases x with
  | true => exact ⟨C, W1, s1, at1, p1⟩
  | false => exact ⟨C, W1, s1, at1, p1⟩
/-! and, or of truth values, as values -/
def andV (a b : M PV) : M PV := bnd a fun x => match x with
  | .bl true => b
  | .bl false => ret (.bl false)
  | _ => stuck
def notV (a : M PV) : M PV := bnd a fun x => match x with
  | .bl b => ret (.bl (!b))
  | _ => stuck
theorem den_andV (h : den K Y (andV ca cb) σ H Q) : tAndV (den K Y ca) (den K Y cb) σ H Q := by
  obtain ⟨C, W, s, at', p⟩ := h
  refine ⟨C, W, s, at', (Pst.bnd p).imp fun x s1 W1 H1 l1 at1 p1 v rv => ?_⟩
  cases x <;> try exact p1.elim
  rename_i b
  cases rv
  refine ⟨b, rfl, ?_⟩
  cases b with
  | true => exact ⟨C, W1, s1, at1, p1⟩
  | false => exact p1 W1 H1 (Vw.Le.refl _) at1 _ (.bl _)
theorem den_notV (h : den K Y (notV ca) σ H Q) : tNotV (den K Y ca) σ H Q := by
  obtain ⟨C, W, s, at', p⟩ := h
  refine ⟨C, W, s, at', (Pst.bnd p).imp fun x s1 W1 H1 l1 at1 p1 v rv => ?_⟩
  cases x <;> try exact p1.elim
  cases rv
  exact ⟨_, rfl, p1 W1 H1 (Vw.Le.refl _) at1 _ (.bl _)⟩
/-! is None -/
def isN (neg : Bool) (a : M PV) : M PV := bnd a fun x => match x with
  | .non => ret (.bl (!neg))
  | _ => ret (.bl neg)
theorem Rep.isnon (r : Rep K W v d) : decide (v = .non) = (match d with | .non => true | _ => false) := by
  cases r <;> simp
theorem den_isN (h : den K Y (isN false ca) σ H Q) : tIsN (den K Y ca) σ H Q := by
  obtain ⟨C, W, s, at', p⟩ := h
  refine ⟨C, W, s, at', (Pst.bnd p).imp fun x s1 W1 H1 l1 at1 p1 v rv => ?_⟩
  show Q (V.bl (decide (v = V.non))) H1
  rw [rv.isnon]
  cases x <;> exact p1 W1 H1 (Vw.Le.refl _) at1 _ (.bl _)
theorem den_notN (h : den K Y (isN true ca) σ H Q) : tNotN (den K Y ca) σ H Q := by
  obtain ⟨C, W, s, at', p⟩ := h
  refine ⟨C, W, s, at', (Pst.bnd p).imp fun x s1 W1 H1 l1 at1 p1 v rv => ?_⟩
  show Q (V.bl (!decide (v = V.non))) H1
  rw [rv.isnon]
  cases x <;> exact p1 W1 H1 (Vw.Le.refl _) at1 _ (.bl _)
/-! ### arguments, displays -/
def argN : M (List PV) := ret []
def argC (a : M PV) (r : M (List PV)) : M (List PV) := bnd a fun d => bnd r fun ds => ret (d :: ds)
theorem den_argN {QA : List V → Hp → Prop} (h : denA K Y argN σ H QA) : tNil σ H QA := by
  obtain ⟨C, W, s, at', p⟩ := h
  exact p W H (Vw.Le.refl _) at' _ .nil
theorem den_argC {r : M (List PV)} {QA : List V → Hp → Prop} (h : denA K Y (argC ca r) σ H QA) : tCons (den K Y ca) (denA K Y r) σ H QA := by
  obtain ⟨C, W, s, at', p⟩ := h
  refine ⟨C, W, s, at', (Pst.bnd p).imp fun d s1 W1 H1 l1 at1 p1 v rv => ⟨C, W1, s1, at1, (Pst.bnd p1).imp fun ds s2 W2 H2 l2 at2 p2 vs rvs => ?_⟩⟩
  exact p2 W2 H2 (Vw.Le.refl _) at2 _ (.cons (rv.mono l2) rvs)
def fits (c : M (List PV)) : M (List PV) := bnd c fun ds => if ds.length ≤ sizeLine then ret ds else stuck
def tupM (c : M (List PV)) : M PV := bnd (fits c) fun ds => ret (.tup ds)
def lstM (c : M (List PV)) : M PV := bnd c fun ds => ret (.lst ds)
theorem den_tup {c : M (List PV)} (h : den K Y (tupM c) σ H Q) : tTup (denA K Y c) σ H Q := by
  obtain ⟨C, W, s, at', p⟩ := h
  refine ⟨C, W, s, at', (Pst.bnd (Pst.bnd p)).imp fun ds s1 W1 H1 l1 at1 p1 vs rvs => ?_⟩
  split at p1
  · rename_i hl
    refine ⟨by rw [rvs.length]; exact hl, fun q hq => ?_⟩
    have p2 := p1 W1 H1 (Vw.Le.refl _) at1
    obtain ⟨W2, l2, at2, r2⟩ := at1.layT hq rvs
    exact p2 W2 _ l2 at2 _ r2
  · exact p1.elim
/-- a new list, nobody's yet -/
theorem denO_lst {c : M (List PV)} (h : denO K Y (fits c) σ H Q) : tLst (denA K Y c) σ H Q := by
  obtain ⟨C, W, s, at', p⟩ := h
  refine ⟨C, W, s, at', (Pst.bnd p).imp fun ds s1 W1 H1 l1 at1 p1 vs rvs => ?_⟩
  split at p1
  · rename_i hl
    exact ⟨by rw [rvs.length]; exact hl, fun q hq => p1 W1 H1 (Vw.Le.refl _) at1 q vs hq rvs⟩
  · exact p1.elim
/-- .. frozen at once -/
theorem denO_den {c : M (List PV)} (h : den K Y (lstM c) σ H Q) : denO K Y c σ H Q := by
  obtain ⟨C, W, s, at', p⟩ := h
  refine ⟨C, W, s, at', (Pst.bnd p).imp fun ds s1 W1 H1 l1 at1 p1 q vs hq rvs => ?_⟩
  obtain ⟨W2, l2, at2, r2⟩ := at1.layL hq rvs
  exact p1 W2 _ l2 at2 _ r2
/-! ### slices -/
def cutP (xs : List PV) (lo hi : Option Int) : List PV := (xs.drop (HT.sIx xs.length 0 lo)).take (HT.sIx xs.length xs.length hi - HT.sIx xs.length 0 lo)
def cutI (xs : List Int) (lo hi : Option Int) : List Int := (xs.drop (HT.sIx xs.length 0 lo)).take (HT.sIx xs.length xs.length hi - HT.sIx xs.length 0 lo)
theorem Reps.cut {vs : List V} {ds : List PV} (r : Reps K W vs ds) (lo hi : Option Int) : Reps K W (cutV vs lo hi) (cutP ds lo hi) := by
  unfold cutV cutP
  rw [r.length]
  exact (r.drop _).take _
theorem cutV_ints (ns : List Int) (lo hi : Option Int) : cutV (ns.map V.int) lo hi = (cutI ns lo hi).map V.int := by
  unfold cutV cutI
  rw [List.length_map, ← List.map_drop, ← List.map_take]
def denP (K : PySem.W.Frag) (Y : WX) (c : M (Option Int)) : TO := fun σ H Q => ∃ (C : Ctx) (W : Vw) (s : S), At K (C.wi Y) W s σ H ∧ Pst K (C.wi Y) W σ (c s) (fun o _ _ H' => Q o H')
def parN : M (Option Int) := ret none
def parS (c : M PV) : M (Option Int) := bnd c fun d => match d with
  | .int i => ret (some i)
  | _ => stuck
theorem den_parN {QO : Option Int → Hp → Prop} (h : denP K Y parN σ H QO) : tNoPart σ H QO := by
  obtain ⟨C, W, s, at', p⟩ := h
  exact p W H (Vw.Le.refl _) at'
theorem den_parS {QO : Option Int → Hp → Prop} (h : denP K Y (parS ca) σ H QO) : tPart (den K Y ca) σ H QO := by
  obtain ⟨C, W, s, at', p⟩ := h
  refine ⟨C, W, s, at', (Pst.bnd p).imp fun d s1 W1 H1 l1 at1 p1 v rv => ?_⟩
  cases d <;> try exact p1.elim
  cases rv
  exact ⟨_, rfl, p1 W1 H1 (Vw.Le.refl _) at1⟩
def slP : PV → Option Int → Option Int → Option PV
  | .lst xs, lo, hi => some (.lst (cutP xs lo hi))
  | .tup xs, lo, hi => some (.tup (cutP xs lo hi))
  | .scr xs, lo, hi => some (.lst ((cutI xs lo hi).map .int))
  | .str x, lo, hi => if x.length ≤ sizeLine then some (.str (cutS x lo hi)) else none
  | _, _, _ => none
def slM (c : M PV) (lo hi : M (Option Int)) : M PV := bnd c fun d => bnd lo fun a => bnd hi fun b => lft (slP d a b)
def rSlU (K : PySem.W.Frag) : V → Option Int → Option Int → Hp → VK → Prop := fun x lo hi H Q => (rSlL K x lo hi H Q ∨ rSlA K x lo hi H Q) ∨ rSlS x lo hi H Q
theorem sl_u {X : Cx} : SlR X (rSlU X.K) := SlR.or (SlR.or sl_list sl_tupA) sl_str
theorem cut_all {vs : List V} {lo hi : Option Int} (h : HT.sIx vs.length 0 lo = 0 ∧ HT.sIx vs.length vs.length hi = vs.length) : cutV vs lo hi = vs := by
  unfold cutV
  rw [h.1, h.2, List.drop_zero, Nat.sub_zero, List.take_length]
theorem den_sl {lo hi : M (Option Int)} (h : den K Y (slM ca lo hi) σ H Q) : tSl (rSlU K) (den K Y ca) (denP K Y lo) (denP K Y hi) σ H Q := by
  obtain ⟨C, W, s, at', p⟩ := h
  refine ⟨C, W, s, at', (Pst.bnd p).imp fun d s1 W1 H1 l1 at1 p1 v rv => ⟨C, W1, s1, at1, (Pst.bnd p1).imp fun a s2 W2 H2 l2 at2 p2 => ⟨C, W2, s2, at2, (Pst.bnd p2).imp fun b s3 W3 H3 l3 at3 p3 => ?_⟩⟩⟩
  obtain ⟨e', he, q⟩ := p3.lft'
  have q0 := q W3 H3 (Vw.Le.refl W3) at3
  have rv := rv.mono (l2.trans l3)
  unfold slP at he
  split at he
  · cases he
    cases rv with
    | lst hx rx =>
      refine .inl (.inl ⟨_, _, rfl, SqL.of (at3.ok.sub _ _ hx), fun p hp => ?_⟩)
      obtain ⟨W4, l4, at4, r4⟩ := at3.layL hp (rx.cut a b)
      exact q W4 _ l4 at4 _ r4
  · cases he
    cases rv with
    | @tup x vs _ hx rx =>
      refine .inl (.inr ⟨_, _, rfl, same_t at3.ok.sub hx, fun e => ?_, fun _ p hp => ?_⟩)
      · refine q0 _ (.tup hx ?_)
        have := rx.cut a b
        rw [cut_all e] at this
        exact this
      · obtain ⟨W4, l4, at4, r4⟩ := at3.layT hp (rx.cut a b)
        exact q W4 _ l4 at4 _ r4
  · cases he
    cases rv with
    | scr hx =>
      refine .inl (.inl ⟨_, _, rfl, at3.ok.sub.seq hx, fun p hp => ?_⟩)
      rw [cutV_ints]
      obtain ⟨W4, l4, at4, r4⟩ := at3.layL hp (Reps.ints (K := K) (W := W3) _)
      exact q W4 _ l4 at4 _ r4
  · split at he
    · cases he
      cases rv
      exact .inr ⟨_, rfl, by assumption, q0 _ (.str _)⟩
    · cases he
  · cases he
/-! ### built-ins of one argument -/
abbrev Fn1 (r : List V → Hp → VK → Prop) (K : PySem.W.Frag) (f : PV → M PV) : Prop := ∀ (C : Ctx) (W : Vw) (s : S) (σ : L2.St) (H : Hp) (v : V) (a : PV) (Q : VK), At K C W s σ H → RdV K W H v a → Pst K C W σ (f a s) (WantV K Q) → r [v] H Q
abbrev Fn1O (r : List V → Hp → VK → Prop) (K : PySem.W.Frag) (f : PV → M (List PV)) : Prop := ∀ (C : Ctx) (W : Vw) (s : S) (σ : L2.St) (H : Hp) (v : V) (a : PV) (Q : VK), At K C W s σ H → RdV K W H v a → Pst K C W σ (f a s) (WantL K Q) → r [v] H Q
theorem den_fn1 {r : List V → Hp → VK → Prop} {f : PV → M PV} (hf : Fn1 r K f) (h : den K Y (bnd ca f) σ H Q) : tCB r (tCons (den K Y ca) tNil) σ H Q := by
  obtain ⟨C, W, s, at', p⟩ := h
  exact ⟨C, W, s, at', (Pst.bnd p).imp fun a s1 W1 H1 l1 at1 p1 v rv => hf _ W1 s1 σ H1 v a Q at1 (.rep rv) p1⟩
theorem den_fn1B {r : List V → Hp → VK → Prop} {f : PV → M PV} (hf : Fn1 r K f) (h : den K Y (bnd (brw i) f) σ H Q) : tCB r (tCons (tVar i) tNil) σ H Q := by
  obtain ⟨C, W, s, at', p⟩ := h
  obtain ⟨sv, v', _, e', rv, p3⟩ := brw_ok at' (Pst.bnd p)
  exact ⟨v', e', hf _ W s σ H v' _ Q at' rv p3⟩
theorem denO_fn1 {r : List V → Hp → VK → Prop} {f : PV → M (List PV)} (hf : Fn1O r K f) (h : denO K Y (bnd ca f) σ H Q) : tCB r (tCons (den K Y ca) tNil) σ H Q := by
  obtain ⟨C, W, s, at', p⟩ := h
  exact ⟨C, W, s, at', (Pst.bnd p).imp fun a s1 W1 H1 l1 at1 p1 v rv => hf _ W1 s1 σ H1 v a Q at1 (.rep rv) p1⟩
def lenP : PV → Option PV
  | .lst xs => some (.int xs.length)
  | .tup xs => some (.int xs.length)
  | .scr xs => some (.int xs.length)
  | .str x => if x.length ≤ sizeLine then some (.int x.length) else none
  | _ => none
abbrev rLen (K : PySem.W.Frag) : List V → Hp → VK → Prop := fun xs H Q => ∃ x n, xs = [x] ∧ LenV K x H n ∧ Q (.int n) H
theorem fn_len : Fn1 (rLen K) K (fun a => lft (lenP a)) := by
  intro C W s σ H v a Q at' ra p
  obtain ⟨d, e, q⟩ := p.lft'
  have q0 := q W H (Vw.Le.refl W) at'
  unfold lenP at e
  split at e
  · cases e
    obtain ⟨x, vs, rfl, hx, rx⟩ := ra.lst at'.ok.sub
    exact ⟨_, _, rfl, .inl ⟨_, SqL.of hx, rfl⟩, q0 _ (by rw [rx.length]; exact .int _)⟩
  · cases e
    obtain ⟨x, vs, rfl, hx, hx2, rx⟩ := ra.tup at'.ok.sub
    exact ⟨_, _, rfl, .inr ⟨_, hx2, rfl⟩, q0 _ (by rw [rx.length]; exact .int _)⟩
  · cases e
    obtain ⟨x, rfl, hx⟩ := ra.scr at'.ok.sub
    exact ⟨_, _, rfl, .inl ⟨_, hx, rfl⟩, q0 _ (by rw [List.length_map]; exact .int _)⟩
  · split at e
    · cases e
      cases ra.str
      exact ⟨_, _, rfl, ⟨by assumption, rfl⟩, q0 _ (.int _)⟩
    · cases e
  · cases e
def absP : PV → Option PV
  | .int i => some (.int (if i < 0 then -i else i))
  | _ => none
theorem fn_abs : Fn1 (fun xs H Q => ∃ i, xs = [.int i] ∧ Q (.int (if i < 0 then -i else i)) H) K (fun a => lft (absP a)) := by
  intro C W s σ H v a Q at' ra p
  obtain ⟨d, e, q⟩ := p.lft'
  have q0 := q W H (Vw.Le.refl W) at'
  unfold absP at e
  split at e
  · cases e
    cases ra.int
    exact ⟨_, rfl, q0 _ (.int _)⟩
  · cases e
def intP : PV → Option PV
  | .int i => some (.int i)
  | .bl k => some (.int (if k = true then 1 else 0))
  | _ => none
theorem fn_int : Fn1 (fun xs H Q => (∃ i, xs = [.int i] ∧ Q (.int i) H) ∨ ∃ k, xs = [.bl k] ∧ Q (.int (if k then 1 else 0)) H) K (fun a => lft (intP a)) := by
  intro C W s σ H v a Q at' ra p
  obtain ⟨d, e, q⟩ := p.lft'
  have q0 := q W H (Vw.Le.refl W) at'
  unfold intP at e
  split at e
  · cases e
    cases ra.int
    exact .inl ⟨_, rfl, q0 _ (.int _)⟩
  · cases e
    cases ra.bl
    exact .inr ⟨_, rfl, q0 _ (.int _)⟩
  · cases e
def blsOf : List PV → Option (List Bool)
  | [] => some []
  | .bl x :: r => (blsOf r).map (x :: ·)
  | _ :: _ => none
theorem blsOf_ok : ∀ {ds : List PV} {xs : List Bool}, blsOf ds = some xs → ds = xs.map PV.bl
  | [], xs, h => by cases h; rfl
  | .bl x :: r, xs, h => by
    have h : (blsOf r).map (x :: ·) = some xs := h
    obtain ⟨ys, e, rfl⟩ := Option.map_eq_some_iff.mp h
    rw [blsOf_ok e]
    rfl
  | .non :: _, _, h => by cases h
  | .str _ :: _, _, h => by cases h
  | .int _ :: _, _, h => by cases h
  | .tup _ :: _, _, h => by cases h
  | .lst _ :: _, _, h => by cases h
  | .scr _ :: _, _, h => by cases h
  | .hnd _ :: _, _, h => by cases h
  | .obj .. :: _, _, h => by cases h
  | .exn .. :: _, _, h => by cases h
  | .dic .. :: _, _, h => by cases h
  | .dct .. :: _, _, h => by cases h
  | .kt .. :: _, _, h => by cases h
theorem blsOf_map (xs : List Bool) : blsOf (xs.map PV.bl) = some xs := by
  induction xs with
  | nil => rfl
  | cons x r ih => show (blsOf (r.map PV.bl)).map (x :: ·) = _; rw [ih]; rfl
def allP : PV → Option PV
  | .lst xs => (blsOf xs).map fun bs => .bl (bs.all id)
  | _ => none
theorem fn_all : Fn1 (rAll K) K (fun a => lft (allP a)) := by
  intro C W s σ H v a Q at' ra p
  obtain ⟨d, e, q⟩ := p.lft'
  have q0 := q W H (Vw.Le.refl W) at'
  unfold allP at e
  split at e
  · obtain ⟨bs, e1, rfl⟩ := Option.map_eq_some_iff.mp e
    obtain ⟨x, vs, rfl, hx, rx⟩ := ra.lst at'.ok.sub
    have ew := blsOf_ok e1
    subst ew
    have ew := rx.of_bls
    subst ew
    exact ⟨x, bs, rfl, SqL.of hx, q0 _ (.bl _)⟩
  · cases e
def listP : PV → Option (List PV)
  | .lst xs => some xs
  | .tup xs => some xs
  | .scr xs => some (xs.map .int)
  | _ => none
abbrev rListOf (K : PySem.W.Frag) : List V → Hp → VK → Prop := fun xs H Q => ∃ p ys, xs = [.ref p] ∧ (SqL K H p ys ∨ SqT K H p ys) ∧ ∀ l, H l = none → Q (.ref l) (upd H l (.lst ys))
theorem fn_list : Fn1O (rListOf K) K (fun a => lft (listP a)) := by
  intro C W s σ H v a Q at' ra p
  obtain ⟨d, e, q⟩ := p.lft'
  have q0 := q W H (Vw.Le.refl W) at'
  unfold listP at e
  split at e
  · cases e
    obtain ⟨x, vs, rfl, hx, rx⟩ := ra.lst at'.ok.sub
    exact ⟨x, vs, rfl, .inl (SqL.of hx), fun l hl => q0 l vs hl rx⟩
  · cases e
    obtain ⟨x, vs, rfl, hx, hx2, rx⟩ := ra.tup at'.ok.sub
    exact ⟨x, vs, rfl, .inr hx2, fun l hl => q0 l vs hl rx⟩
  · cases e
    obtain ⟨x, rfl, hx⟩ := ra.scr at'.ok.sub
    exact ⟨x, _, rfl, .inl hx, fun l hl => q0 l _ hl (Reps.ints _)⟩
  · cases e
def tupleP : PV → Option PV
  | .lst xs => some (.tup xs)
  | .tup xs => some (.tup xs)
  | _ => none
abbrev rTupOf (K : PySem.W.Frag) : List V → Hp → VK → Prop := fun xs H Q => ∃ p ys, xs = [.ref p] ∧ ((SqL K H p ys ∧ ∀ l, H l = none → Q (.ref l) (upd H l (.tup ys))) ∨ (SqT K H p ys ∧ Q (.ref p) H))
theorem fn_tuple : Fn1 (rTupOf K) K (fun a => lft (tupleP a)) := by
  intro C W s σ H v a Q at' ra p
  obtain ⟨d, e, q⟩ := p.lft'
  have q0 := q W H (Vw.Le.refl W) at'
  unfold tupleP at e
  split at e
  · cases e
    obtain ⟨x, vs, rfl, hx, rx⟩ := ra.lst at'.ok.sub
    refine ⟨x, vs, rfl, .inl ⟨SqL.of hx, fun l hl => ?_⟩⟩
    obtain ⟨W4, l4, at4, r4⟩ := at'.layT hl rx
    exact q W4 _ l4 at4 _ r4
  · cases e
    obtain ⟨x, vs, rfl, hx, hx2, rx⟩ := ra.tup at'.ok.sub
    exact ⟨x, vs, rfl, .inr ⟨hx2, q0 _ (.tup hx rx)⟩⟩
  · cases e
/-! ### methods -/
def joinP (a : Str) : PV → Option PV
  | .lst ys => match strsOf ys with
    | some zs => if (zs.map (·.length)).sum + zs.length * a.length ≤ 16777216 then some (.str (Txt.join a zs)) else none
    | none => none
  | _ => none
def joinM (ca cb : M PV) : M PV := bnd ca fun a => match a with
  | .str x => bnd cb fun b => lft (joinP x b)
  | _ => stuck
abbrev rJoin (K : PySem.W.Frag) : V → List V → Hp → VK → Prop := fun x xs H Q => ∃ a p, ∃ ys : List Str, x = .str a ∧ xs = [.ref p] ∧ (SqL K H p (ys.map V.str) ∨ SqT K H p (ys.map V.str)) ∧ (ys.map (·.length)).sum + ys.length * a.length ≤ 16777216 ∧ Q (.str (Txt.join a ys)) H
theorem den_join (h : den K Y (joinM ca cb) σ H Q) : tM1 (rJoin K) (den K Y ca) (den K Y cb) σ H Q := by
  obtain ⟨C, W, s, at', p⟩ := h
  refine ⟨C, W, s, at', (Pst.bnd p).imp fun a s1 W1 H1 l1 at1 p1 v rv => ?_⟩
  cases a <;> try exact p1.elim
  rename_i x
  cases rv
  refine ⟨⟨_, rfl⟩, C, W1, s1, at1, (Pst.bnd p1).imp fun b s2 W2 H2 l2 at2 p2 w rw' => ?_⟩
  obtain ⟨d, e, q⟩ := p2.lft'
  have q0 := q W2 H2 (Vw.Le.refl W2) at2
  unfold joinP at e
  split at e
  · split at e
    · rename_i zs e1
      split at e
      · cases e
        cases rw' with
        | lst hx rx =>
          have ew := strsOf_ok e1
          subst ew
          have ew := rx.of_strs
          subst ew
          exact ⟨_, _, zs, rfl, rfl, .inl (SqL.of (at2.ok.sub _ _ hx)), by assumption, q0 _ (.str _)⟩
      · cases e
    · cases e
  · cases e
/-- x.append(e), x a name that owns its list -/
def chkO (i : Nat) : M Unit := fun s => match s.env[i]? with
  | some (some (.own _)) => .ok () s
  | _ => .stk
theorem chkO_ok {α : Type} {f : Unit → M α} {Q : α → S → Vw → Hp → Prop} (h : At K C W s σ H) (p : Pst K C W σ (bnd (chkO i) f s) Q) : (∃ xs, s.env[i]? = some (some (.own xs))) ∧ Pst K C W σ (f () s) Q := by
  unfold bnd chkO at p
  split at p
  · rename_i a s' e
    split at e
    · rename_i xs he
      cases e
      exact ⟨⟨_, he⟩, p⟩
    · cases e
  · rename_i e
    split at e <;> cases e
  · exact p.elim
def pushM (i : Nat) (d : PV) : M PV := fun s => match s.env[i]? with
  | some (some (.own xs)) => if xs.length < sizeLine then .ok .non { s with env := s.env.set i (some (.own (xs ++ [d]))) } else .stk
  | _ => .stk
def appM (i : Nat) (ca : M PV) : M PV := bnd (chkO i) fun _ => bnd ca fun d => pushM i d
theorem den_app (h : den K Y (appM i ca) σ H Q) : tBM K "list" rAppend (tVar i) (tCons (den K Y ca) tNil) σ H Q := by
  obtain ⟨C, W, s, at', p⟩ := h
  obtain ⟨⟨xs, e⟩, p⟩ := chkO_ok at' p
  obtain ⟨a, vs, e1, ow, e2, r⟩ := at'.own i xs e
  refine ⟨.ref a, e1, .inl ⟨rfl, vs, SqL.of e2⟩, C, W, s, at', (Pst.bnd p).imp fun d s1 W1 H1 l1 at1 p1 v rv => ?_⟩
  unfold pushM at p1
  split at p1
  · rename_i ys he
    split at p1
    · rename_i hl
      obtain ⟨a', vs', f1, ow', f2, r'⟩ := at1.own i ys he
      rw [e1] at f1
      cases f1
      refine ⟨a, vs', v, rfl, rfl, f2, by rw [r'.length]; exact hl, ?_⟩
      exact p1 W1 _ (Vw.Le.refl _) (at1.change he e1 (r'.append (.cons rv .nil))) _ .non
    · exact p1.elim
  · exact p1.elim
def takeM (i : Nat) (d : PV) : M PV := fun s => match d, s.env[i]? with
  | .int k, some (some (.own xs)) => if -(2 ^ 63) ≤ k ∧ k < 2 ^ 63 then (match seqIndex? k xs.length with
    | some j => match xs[j]? with
      | some y => .ok y { s with env := s.env.set i (some (.own (xs.eraseIdx j))) }
      | none => .stk
    | none => .stk) else .stk
  | _, _ => .stk
def popM (i : Nat) (ca : M PV) : M PV := bnd (chkO i) fun _ => bnd ca fun d => takeM i d
theorem den_pop (h : den K Y (popM i ca) σ H Q) : tBM K "list" rPopAt (tVar i) (tCons (den K Y ca) tNil) σ H Q := by
  obtain ⟨C, W, s, at', p⟩ := h
  obtain ⟨⟨xs, e⟩, p⟩ := chkO_ok at' p
  obtain ⟨a, vs, e1, ow, e2, r⟩ := at'.own i xs e
  refine ⟨.ref a, e1, .inl ⟨rfl, vs, SqL.of e2⟩, C, W, s, at', (Pst.bnd p).imp fun d s1 W1 H1 l1 at1 p1 v rv => ?_⟩
  unfold takeM at p1
  split at p1
  · rename_i k ys he
    split at p1
    · rename_i hk
      split at p1
      · rename_i j hj
        split at p1
        · rename_i y hy
          cases rv
          obtain ⟨a', vs', f1, ow', f2, r'⟩ := at1.own i ys he
          rw [e1] at f1
          cases f1
          obtain ⟨y', hy', ry⟩ := r'.get hy
          exact ⟨a, vs', k, j, y', rfl, rfl, f2, hk.1, hk.2, by rw [r'.length]; exact hj, hy', p1 W1 _ (Vw.Le.refl _) (at1.change he e1 (r'.erase j)) _ ry⟩
        · exact p1.elim
      · exact p1.elim
    · exact p1.elim
  · exact p1.elim
end
/-! ### handles -/
def valP {κ : Type} [DecidableEq κ] (kvs : List (κ × PV)) (k : κ) : Option PV := (kvs.find? fun kv => decide (kv.1 = k)).map (·.2)
def putP {κ : Type} [DecidableEq κ] (kvs : List (κ × PV)) (k : κ) (v : PV) : List (κ × PV) :=
  if (kvs.any fun kv => decide (kv.1 = k)) = true then kvs.map (fun kv => if kv.1 = k then (kv.1, v) else kv) else kvs ++ [(k, v)]
def mergeP (kvs more : List (Key × PV)) : List (Key × PV) := more.foldl (fun acc kv => putP acc kv.1 kv.2) kvs
section
variable {Y : WX} {K : PySem.W.Frag} {C : Ctx} {W W' : Vw} {σ : L2.St} {H : Hp} {s : S} {v w : V} {d : PV} {Q : VK} {i : Nat} {ca cb cd : M PV} {κ : Type} [DecidableEq κ]
theorem KVs.get : ∀ {r : List (κ × V)} {q : List (κ × PV)} {k : κ} {d : PV}, KVs K W r q → valP q k = some d → ∃ v, valV r k = some v ∧ Rep K W v d
  | _, _, k, d, .nil, h => by cases h
  | _, _, k, d, .cons (k := k') (v := v) (d := d') (r := r) (s := q) h t, e => by
    unfold valP at e
    unfold valV
    rw [List.find?_cons] at e ⊢
    by_cases hk : k' = k
    · rw [decide_eq_true (show ((k', d') : κ × PV).1 = k from hk)] at e
      rw [decide_eq_true (show ((k', v) : κ × V).1 = k from hk)]
      cases e
      exact ⟨v, rfl, h⟩
    · rw [decide_eq_false (show ¬ ((k', d') : κ × PV).1 = k from hk)] at e
      rw [decide_eq_false (show ¬ ((k', v) : κ × V).1 = k from hk)]
      exact KVs.get t e
theorem KVs.length : ∀ {r : List (κ × V)} {q : List (κ × PV)}, KVs K W r q → r.length = q.length
  | _, _, .nil => rfl
  | _, _, .cons _ t => congrArg Nat.succ (KVs.length t)
theorem KVs.any : ∀ {r : List (κ × V)} {q : List (κ × PV)} {k : κ}, KVs K W r q → (r.any fun kv => decide (kv.1 = k)) = (q.any fun kv => decide (kv.1 = k))
  | _, _, _, .nil => rfl
  | _, _, k, .cons _ t => by
    rw [List.any_cons, List.any_cons, KVs.any t]
theorem KVs.append : ∀ {r r' : List (κ × V)} {q q' : List (κ × PV)}, KVs K W r q → KVs K W r' q' → KVs K W (r ++ r') (q ++ q')
  | _, _, _, _, .nil, t => t
  | _, _, _, _, .cons h t, u => .cons h (KVs.append t u)
theorem KVs.over {k : κ} (h : Rep K W v d) : ∀ {r : List (κ × V)} {q : List (κ × PV)}, KVs K W r q → KVs K W (r.map (fun kv => if kv.1 = k then (kv.1, v) else kv)) (q.map (fun kv => if kv.1 = k then (kv.1, d) else kv))
  | _, _, .nil => .nil
  | _, _, .cons (k := k') (v := v') (d := d') g t => by
    rw [List.map_cons, List.map_cons]
    by_cases hk : k' = k
    · rw [if_pos (show ((k', v') : κ × V).1 = k from hk), if_pos (show ((k', d') : κ × PV).1 = k from hk)]
      exact .cons h (KVs.over h t)
    · rw [if_neg (show ¬ ((k', v') : κ × V).1 = k from hk), if_neg (show ¬ ((k', d') : κ × PV).1 = k from hk)]
      exact .cons g (KVs.over h t)
theorem KVs.put {k : κ} {r : List (κ × V)} {q : List (κ × PV)} (t : KVs K W r q) (h : Rep K W v d) : KVs K W (putK r k v) (putP q k d) := by
  unfold putK putP
  rw [t.any]
  split
  · exact t.over h
  · exact t.append (.cons h .nil)
theorem KVs.merge : ∀ {m r : List (Key × V)} {n q : List (Key × PV)}, KVs K W m n → KVs K W r q → KVs K W (mergeK r m) (mergeP q n)
  | _, _, _, _, .nil, t => t
  | _, _, _, _, .cons (k := k) (v := v) (d := d) (r := m) (s := n) h u, t => by
    show KVs K W (mergeK (putK _ k v) m) (mergeP (putP _ k d) n)
    exact KVs.merge u (t.put h)
/-- d['k'] of a handle -/
def hgetP : PV → PV → M PV := fun a b s => match a, b with
  | .hnd n, .str k => match s.sto[n]? with
    | some (.dic kvs) => match valP kvs (.inr k) with
      | some d => .ok d s
      | none => .stk
    | _ => .stk
  | _, _ => .stk
theorem bin_hget : Bin (fun x y H Q => ∃ a v, x = .ref a ∧ DGet H a y (some v) ∧ Q v H) K hgetP := by
  intro C W s σ H v w a b Q at' ra rb p
  unfold hgetP at p
  split at p
  · rename_i n k
    split at p
    · rename_i kvs hs
      split at p
      · rename_i d hd
        obtain ⟨x, rfl, hx⟩ := ra.hnd
        cases rb.str
        cases (at'.ok.live hx hs (fun z => nomatch z)).2 with
        | dic hH kv =>
          obtain ⟨y, hy, ry⟩ := kv.get hd
          refine ⟨x, y, rfl, ?_, p W H (Vw.Le.refl _) at' _ ry⟩
          rw [← hy]
          exact DGet.k (k := Sum.inr k) hH
      · exact p.elim
    · exact p.elim
  · exact p.elim
theorem den_hget (h : den K Y (bin ca cb hgetP) σ H Q) : tDGet (den K Y ca) (den K Y cb) σ H Q := den_bin bin_hget h
/-- a handle's object changed -/
theorem At.putG {n : Nat} {a : Addr} {o : HO} {mo mo' : MO} (h : At K C W s σ H) (hn : W.hs[n]? = some a) (hm : s.sto[n]? = some mo) (hg : mo ≠ .gone) (r : MRep K W (upd H a o) a mo') : At K C W { s with sto := s.sto.set n mo' } σ (upd H a o) := by
  obtain ⟨fa, _⟩ := h.ok.live hn hm hg
  have hnl : n < s.sto.length := (List.getElem?_eq_some_iff.mp hm).1
  refine ⟨⟨fun b u e => ?_, fun m b e => ?_, h.ok.nd, by rw [List.length_set]; exact h.ok.len⟩, fun b u e hb => ?_, h.pre, h.gro, h.len, h.val, fun j ys e => ?_, h.dst⟩
  · rw [upd_ne (ne_of_none e fa)]
    exact h.ok.sub b u e
  · by_cases hb : b = a
    · subst hb
      have hmn : m = n := by
        obtain ⟨x1, y1⟩ := List.getElem?_eq_some_iff.mp e
        obtain ⟨x2, y2⟩ := List.getElem?_eq_some_iff.mp hn
        exact (List.getElem_inj h.ok.nd).mp (y1.trans y2.symm)
      subst hmn
      exact .inl ⟨fa, _, List.getElem?_set_self hnl, r⟩
    · have hmn : n ≠ m := fun z => by
        subst z
        rw [hn] at e
        cases e
        exact hb rfl
      exact (h.ok.hnd m b e).map rfl (List.getElem?_set_ne hmn) fun mo g3 => g3.other hb
  · have hba : b ≠ a := fun z => by
      subst z
      have hg : C.G b ≠ none := by rw [e]; exact fun q => nomatch q
      exact hb ((h.gro b hg).2 (List.mem_of_getElem? hn))
    rw [upd_ne hba]
    exact h.keep b u e hb
  · obtain ⟨b, ws, e1, ow, e2, r2⟩ := h.own j ys e
    have hba : b ≠ a := fun z => ow.h (by rw [z]; exact List.mem_of_getElem? hn)
    exact ⟨b, ws, e1, ow, by rw [upd_ne hba]; exact e2, r2⟩
theorem At.put {n : Nat} {a : Addr} {kvs : List (Key × V)} {q : List (Key × PV)} {mo : MO} (h : At K C W s σ H) (hn : W.hs[n]? = some a) (hm : s.sto[n]? = some mo) (hg : mo ≠ .gone) (r : KVs K W kvs q) : At K C W { s with sto := s.sto.set n (.dic q) } σ (upd H a (.dK kvs)) := h.putG hn hm hg (.dic upd_same r)
/-- d['k'] = v -/
def hputM (cd ck cv : M PV) : M Fl := bnd cv fun v => bnd cd fun a => bnd ck fun b => fun s => match a, b with
  | .hnd n, .str k => match s.sto[n]? with
    | some (.dic kvs) => if kvs.length < sizeLine then .ok .nx { s with sto := s.sto.set n (.dic (putP kvs (.inr k) v)) } else .stk
    | _ => .stk
  | _, _ => .stk
end
/-! ### statements: what is wanted of an expression within -/
section
variable {Y : WX} {K : PySem.W.Frag} {C : Ctx} {W W' : Vw} {σ : L2.St} {H : Hp} {s : S} {α : Type} {D : Ends}
theorem PstS.up {r : Res S Fl} (l : W.Le W') (h : PstS K C W D r) : PstS K C W' D r := by
  cases r with
  | ok a s' => exact fun W2 σ2 H2 l2 at2 => h W2 σ2 H2 (l.trans l2) at2
  | exc e s' => exact fun W2 σ2 H2 cls d l2 at2 r => h W2 σ2 H2 cls d (l.trans l2) at2 r
  | stk => exact h
theorem PstS.bnd {c : M α} {f : α → M Fl} (h : PstS K C W D (Dn.bnd c f s)) : Pst K C W σ (c s) (fun a s1 W1 _ => PstS K C W1 D (f a s1)) := by
  unfold Dn.bnd at h
  cases e : c s with
  | ok a s1 =>
    rw [e] at h
    exact fun W1 H1 l _ => h.up l
  | exc => rw [e] at h; exact h
  | stk => rw [e] at h; exact h
theorem den_hput {cd ck cv : M PV} (h : denS K Y (hputM cd ck cv) D σ H) : sDPut (den K Y cd) (den K Y ck) (den K Y cv) D σ H := by
  obtain ⟨C, W, s, at', p⟩ := h
  refine ⟨C, W, s, at', (PstS.bnd p).imp fun v s1 W1 H1 l1 at1 p1 x rx => ⟨C, W1, s1, at1, (PstS.bnd p1).imp fun a s2 W2 H2 l2 at2 p2 y ry => ⟨C, W2, s2, at2, (PstS.bnd p2).imp fun b s3 W3 H3 l3 at3 p3 z rz => ?_⟩⟩⟩
  split at p3
  · rename_i n k
    split at p3
    · rename_i kvs hs
      split at p3
      · rename_i hl
        cases rz
        have ry := ry.mono l3
        cases ry with
        | hnd hx =>
          rename_i a
          cases (at3.ok.live hx hs (fun z => nomatch z)).2 with
          | dic hH kv =>
            refine ⟨a, _, rfl, DPut.k (k := Sum.inr k) hH (by rw [kv.length]; exact hl), ?_⟩
            exact p3 W3 _ _ (Vw.Le.refl _) (at3.put hx hs (fun z => nomatch z) (kv.put (rx.mono (l2.trans l3))))
      · exact p3.elim
    · exact p3.elim
  · exact p3.elim
end
end Dn
/-! Den4: dict displays, comprehensions, statements. -/
namespace Dn
open PySem L2
/-! ### an address held apart while something is made -/
def Ctx.res (C : Ctx) (D : Addr) (o : HO) : Ctx := { G := upd C.G D o, F0 := fun b => if b = D then none else C.F0 b, hs0 := C.hs0, X := C.X }
def del (H : Hp) (D : Addr) : Hp := fun b => if b = D then none else H b
theorem del_same {H : Hp} {D : Addr} : del H D D = none := if_pos rfl
theorem del_ne {H : Hp} {D b : Addr} (h : b ≠ D) : del H D b = H b := if_neg h
theorem upd_del {H : Hp} {D : Addr} {o : HO} (h : H D = some o) : upd (del H D) D o = H := by
  funext b
  by_cases hb : b = D
  · subst hb; rw [upd_same, h]
  · rw [upd_ne hb, del_ne hb]
section
variable {Y : WX} {K : PySem.W.Frag} {C : Ctx} {W W' : Vw} {σ : L2.St} {H : Hp} {s : S} {v w : V} {d : PV} {Q : VK} {i : Nat} {ca cb cd : M PV} {D : Addr} {o : HO}
theorem At.resIn (h : At K C W s σ H) (hD : H D = none) (o : HO) : At K (C.res D o) W s σ (upd H D o) := by
  obtain ⟨f1, f2, f3⟩ := h.fresh hD
  refine ⟨⟨fun b u e => ?_, fun n b e => ?_, h.ok.nd, h.ok.len⟩, fun b u e hb => ?_, h.pre, fun b hb => ?_, h.len, h.val, fun j ys e => ?_, h.dst⟩
  · rw [upd_ne (ne_of_none e f1)]
    exact h.ok.sub b u e
  · exact (h.ok.hnd n b e).map rfl rfl fun mo g3 => g3.other fun z => f2 (by rw [← z]; exact List.mem_of_getElem? e)
  · by_cases hbD : b = D
    · subst hbD
      have e : upd C.G b o b = some u := e
      rw [upd_same] at e ⊢
      exact e
    · have e : upd C.G D o b = some u := e
      rw [upd_ne hbD] at e ⊢
      exact h.keep b u e hb
  · by_cases hbD : b = D
    · subst hbD
      exact ⟨by show _ = (if b = b then none else C.F0 b); rw [if_pos rfl]; exact f1, fun z => absurd z f2⟩
    · have hb : upd C.G D o b ≠ none := hb
      rw [upd_ne hbD] at hb
      obtain ⟨g1, g2⟩ := h.gro b hb
      exact ⟨by show _ = (if b = D then none else C.F0 b); rw [if_neg hbD]; exact g1, g2⟩
  · obtain ⟨b, ws, e1, ow, e2, r2⟩ := h.own j ys e
    have hb : b ≠ D := ne_of_none e2 hD
    exact ⟨b, ws, e1, ⟨ow.f, ow.h, by show upd C.G D o b = none; rw [upd_ne hb]; exact ow.g⟩, by rw [upd_ne hb]; exact e2, r2⟩
theorem At.resOut (h : At K (C.res D o) W s σ H) (hG : C.G D = none) (hh : D ∉ C.hs0) : del H D D = none ∧ upd (del H D) D o = H ∧ At K C W s σ (del H D) := by
  have eD : (C.res D o).G D = some o := upd_same
  have hHD : H D = some o := h.keep D o eD hh
  have gD : (C.res D o).G D ≠ none := by rw [eD]; exact fun z => nomatch z
  obtain ⟨g1, g2⟩ := h.gro D gD
  have g1 : W.F D = none := by rw [g1]; show (if D = D then none else C.F0 D) = none; rw [if_pos rfl]
  have g2 : D ∉ W.hs := fun z => hh (g2 z)
  refine ⟨del_same, upd_del hHD, ⟨⟨fun b u e => ?_, fun n b e => ?_, h.ok.nd, h.ok.len⟩, fun b u e hb => ?_, h.pre, fun b hb => ?_, h.len, h.val, fun j ys e => ?_, h.dst⟩⟩
  · rw [del_ne (ne_of_none e g1)]
    exact h.ok.sub b u e
  · have hb : b ≠ D := fun z => g2 (by rw [← z]; exact List.mem_of_getElem? e)
    exact (h.ok.hnd n b e).map rfl rfl fun mo k3 => k3.at (del_ne hb)
  · have hbD : b ≠ D := fun z => by rw [z, hG] at e; cases e
    rw [del_ne hbD]
    refine h.keep b u ?_ hb
    show upd C.G D o b = _
    rw [upd_ne hbD]
    exact e
  · have hbD : b ≠ D := fun z => by rw [z] at hb; exact hb hG
    obtain ⟨k1, k2⟩ := h.gro b (by show upd C.G D o b ≠ none; rw [upd_ne hbD]; exact hb)
    have k1 : W.F b = (if b = D then none else C.F0 b) := k1
    rw [if_neg hbD] at k1
    exact ⟨k1, k2⟩
  · obtain ⟨b, ws, e1, ow, e2, r2⟩ := h.own j ys e
    have og : upd C.G D o b = none := ow.g
    have hb : b ≠ D := fun z => by rw [z, upd_same] at og; cases og
    rw [upd_ne hb] at og
    exact ⟨b, ws, e1, ⟨ow.f, ow.h, og⟩, by rw [del_ne hb]; exact e2, r2⟩
theorem At.nohs (h : At K C W s σ H) (hD : H D = none) : C.G D = none ∧ D ∉ C.hs0 := by
  obtain ⟨_, f2, f3⟩ := h.fresh hD
  refine ⟨f3, fun hm => f2 ?_⟩
  obtain ⟨n, hn⟩ := List.getElem?_of_mem hm
  exact List.mem_of_getElem? (h.pre n D hn)
/-- something new that nobody knows of -/
theorem At.extra {p : Addr} (h : At K C W s σ H) (hp : H p = none) (o : HO) : At K C W s σ (upd H p o) := by
  obtain ⟨f1, f2, f3⟩ := h.fresh hp
  refine ⟨⟨fun b u e => ?_, fun n b e => ?_, h.ok.nd, h.ok.len⟩, fun b u e hb => ?_, h.pre, h.gro, h.len, h.val, fun j ys e => ?_, h.dst⟩
  · rw [upd_ne (ne_of_none e f1)]
    exact h.ok.sub b u e
  · exact (h.ok.hnd n b e).map rfl rfl fun mo g3 => g3.other fun z => f2 (by rw [← z]; exact List.mem_of_getElem? e)
  · rw [upd_ne (fun z => by rw [z, f3] at e; cases e)]
    exact h.keep b u e hb
  · obtain ⟨b, ws, e1, ow, e2, r2⟩ := h.own j ys e
    exact ⟨b, ws, e1, ow, by rw [upd_ne (ne_of_none e2 hp)]; exact e2, r2⟩
theorem At.resExt (h : At K (C.res D o) W s σ H) (hG : C.G D = none) (hh : D ∉ C.hs0) : At K C W s σ H := by
  obtain ⟨e1, e2, a⟩ := h.resOut hG hh
  have a2 := a.extra e1 o
  rw [e2] at a2
  exact a2
/-- what is wanted, while D is held apart -/
theorem Pst.res {α : Type} {r : Res S α} {Q : α → S → Vw → Hp → Prop} (hG : C.G D = none) (hh : D ∉ C.hs0) (h : Pst K C W σ r Q) : Pst K (C.res D o) W σ r (fun a s' W' H' => Q a s' W' (del H' D)) := by
  cases r with
  | ok a s' => exact fun W' H' l at' => h W' _ l (at'.resOut hG hh).2.2
  | exc e s' => exact fun W' σ' H' cls d l at' r => h W' σ' H' cls d l (at'.resExt hG hh) r
  | stk => exact h
/-- a new handle -/
theorem At.newH {p : Addr} {r : List (Key × V)} {q : List (Key × PV)} (h : At K C W s σ H) (hp : H p = none) (k : KVs K W r q) :
    W.Le ⟨W.F, W.hs ++ [p]⟩ ∧ At K C ⟨W.F, W.hs ++ [p]⟩ { s with sto := s.sto ++ [.dic q] } σ (upd H p (.dK r)) ∧ Rep K ⟨W.F, W.hs ++ [p]⟩ (.ref p) (.hnd s.sto.length) := by
  obtain ⟨f1, f2, f3⟩ := h.fresh hp
  have le : W.Le ⟨W.F, W.hs ++ [p]⟩ := ⟨Same.refl _, fun n a e => by
    have := (List.getElem?_eq_some_iff.mp e).1
    show (W.hs ++ [p])[n]? = _
    rw [List.getElem?_append_left this]
    exact e⟩
  refine ⟨le, ⟨⟨fun b u e => ?_, fun n b e => ?_, ?_, ?_⟩, fun b u e hb => ?_, fun n b e => le.pre n b (h.pre n b e), fun b hb => ?_, h.len, fun j e he => ?_, fun j ys e => ?_, h.dst⟩, .hnd ?_⟩
  · rw [upd_ne (ne_of_none e f1)]
    exact h.ok.sub b u e
  · have e : (W.hs ++ [p])[n]? = some b := e
    by_cases hn : n < W.hs.length
    · rw [List.getElem?_append_left hn] at e
      refine (h.ok.hnd n b e).map rfl ?_ fun mo g3 => (g3.other fun z => f2 (by rw [← z]; exact List.mem_of_getElem? e)).mono le
      show (s.sto ++ _)[n]? = _
      rw [List.getElem?_append_left (by rw [h.ok.len]; exact hn)]
    · rw [List.getElem?_append_right (by omega)] at e
      have hz : n - W.hs.length = 0 := by
        have := (List.getElem?_eq_some_iff.mp e).1
        simp at this
        omega
      rw [hz] at e
      cases e
      refine .inl ⟨f1, .dic q, ?_, .dic upd_same (k.mono le)⟩
      show (s.sto ++ [MO.dic q])[n]? = _
      rw [List.getElem?_append_right (by rw [h.ok.len]; omega), h.ok.len, hz]
      rfl
  · show (W.hs ++ [p]).Nodup
    rw [List.nodup_append]
    exact ⟨h.ok.nd, by simp, fun a ha b hb => by
      rw [List.mem_singleton] at hb
      subst hb
      exact fun z => f2 (by rw [← z]; exact ha)⟩
  · show (s.sto ++ _).length = (W.hs ++ _).length
    rw [List.length_append, List.length_append, h.ok.len]
    rfl
  · rw [upd_ne (fun z => by rw [z, f3] at e; cases e)]
    exact h.keep b u e hb
  · obtain ⟨g1, g2⟩ := h.gro b hb
    refine ⟨g1, fun hm => ?_⟩
    rcases List.mem_append.mp hm with hm | hm
    · exact g2 hm
    · rw [List.mem_singleton] at hm
      rw [hm] at hb
      exact absurd f3 hb
  · obtain ⟨v, e1, r⟩ := h.val j e he
    exact ⟨v, e1, r.mono le⟩
  · obtain ⟨b, ws, e1, ow, e2, r2⟩ := h.own j ys e
    have hb : b ≠ p := ne_of_none e2 hp
    refine ⟨b, ws, e1, ⟨ow.f, fun hm => ?_, ow.g⟩, by rw [upd_ne hb]; exact e2, r2.mono le⟩
    rcases List.mem_append.mp hm with hm | hm
    · exact ow.h hm
    · exact hb (List.mem_singleton.mp hm)
  · show (W.hs ++ [p])[s.sto.length]? = _
    rw [h.ok.len, List.getElem?_append_right (Nat.le_refl _), Nat.sub_self]
    rfl
/-! ### {'k': e, ..}: a new handle -/
def prsM : List (Str × M PV) → M (List (Key × PV))
  | [] => ret []
  | (k, c) :: r => bnd c fun d => bnd (prsM r) fun ds => ret ((.inr k, d) :: ds)
def trsOf (K : PySem.W.Frag) (Y : WX) (kcs : List (Str × M PV)) : List (TE × TE) := kcs.map fun p => (tC (.str p.1), den K Y p.2)
def dispM (kcs : List (Str × M PV)) : M PV := bnd (prsM kcs) fun kvs s => if kvs.length ≤ 15 then .ok (.hnd s.sto.length) { s with sto := s.sto ++ [.dic (mergeP [] kvs)] } else .stk
theorem den_prs : ∀ (kcs : List (Str × M PV)) {C : Ctx} {W : Vw} {s : S} {H : Hp} {QP : List (V × V) → Hp → Prop}, At K (C.wi Y) W s σ H →
    Pst K (C.wi Y) W σ (prsM kcs s) (fun kvs _ W' H' => ∀ r : List (Key × V), KVs K W' r kvs → QP (r.map fun kv => (kV kv.1, kv.2)) H') → tPairs (trsOf K Y kcs) σ H QP
  | [], C, W, s, H, QP, at', p => p W H (Vw.Le.refl _) at' [] .nil
  | (k, c) :: r, C, W, s, H, QP, at', p => by
    refine ⟨C, W, s, at', (Pst.bnd p).imp fun d s1 W1 H1 l1 at1 p1 v rv => ?_⟩
    refine den_prs r at1 ((Pst.bnd p1).imp fun kvs s2 W2 H2 l2 at2 p2 q hq => ?_)
    exact p2 W2 H2 (Vw.Le.refl _) at2 ((.inr k, v) :: q) (.cons (rv.mono l2) hq)
theorem den_disp {kcs : List (Str × M PV)} (h : den K Y (dispM kcs) σ H Q) : tDisp (trsOf K Y kcs) σ H Q := by
  obtain ⟨C, W, s, at', p⟩ := h
  intro q hq
  obtain ⟨hG, hh⟩ := at'.nohs hq
  have p1 := (Pst.bnd p).res (o := .dK []) hG hh
  refine den_prs (C := C.res q (.dK [])) kcs (at'.resIn hq (.dK [])) (p1.imp fun kvs s1 W1 H1 l1 at1 p2 r hr => ?_)
  obtain ⟨e1, e2, at2⟩ := at1.resOut hG hh
  have hp : H1 q = some (.dK []) := at1.keep q _ upd_same hh
  refine ⟨hp, r, rfl, ?_⟩
  split at p2
  · rename_i hl
    refine ⟨by rw [hr.length]; exact hl, ?_⟩
    obtain ⟨l3, at3, r3⟩ := at2.newH e1 (KVs.merge hr .nil)
    have p3 := p2 _ _ l3 at3 _ r3
    have e3 : upd (del H1 q) q (.dK (mergeK [] r)) = upd H1 q (.dK (mergeK [] r)) := by
      rw [← e2, upd_upd, e2]
    rw [e3] at p3
    exact p3
  · exact p2.elim
/-! ### the slots of a block forgotten -/
def wip (e : Env) : List Nat → Env
  | [] => e
  | v :: vs => (wip e vs).set v none
theorem wip_length (e : Env) : ∀ vs : List Nat, (wip e vs).length = e.length
  | [] => rfl
  | v :: vs => by unfold wip; rw [List.length_set, wip_length e vs]
theorem wip_some {e : Env} {j : Nat} {x : SV} : ∀ {vs : List Nat}, (wip e vs)[j]? = some (some x) → e[j]? = some (some x) ∧ j ∉ vs
  | [], h => ⟨h, by simp⟩
  | v :: vs, h => by
    unfold wip at h
    by_cases hi : v = j
    · subst hi
      by_cases hv : v < (wip e vs).length
      · rw [List.getElem?_set_self hv] at h; cases h
      · rw [List.getElem?_eq_none (by simpa using hv)] at h; cases h
    · rw [List.getElem?_set_ne hi] at h
      obtain ⟨h1, h2⟩ := wip_some h
      exact ⟨h1, by simp only [List.mem_cons, not_or]; exact ⟨fun e => hi e.symm, h2⟩⟩
theorem wipe_in {σ : L2.St} {j : Nat} : ∀ {vs : List Nat}, j ∈ vs → j < σ.length → (wipe σ vs)[j]? = some none
  | v :: vs, h, hl => by
    unfold wipe
    by_cases hi : v = j
    · subst hi
      exact List.getElem?_set_self (by rw [wipe_length]; exact hl)
    · rw [List.getElem?_set_ne hi]
      exact wipe_in ((List.mem_cons.mp h).resolve_left fun e => hi e.symm) hl
theorem wipe_ext {σ τ : L2.St} {vs : List Nat} (hl : σ.length = τ.length) (h : ∀ j, j ∉ vs → σ[j]? = τ[j]?) : wipe σ vs = wipe τ vs := by
  apply List.ext_getElem?
  intro j
  by_cases hj : j ∈ vs
  · by_cases hlt : j < σ.length
    · rw [wipe_in hj hlt, wipe_in hj (by omega)]
    · rw [List.getElem?_eq_none (by rw [wipe_length]; omega), List.getElem?_eq_none (by rw [wipe_length]; omega)]
  · rw [wipe_out hj, wipe_out hj]
    exact h j hj
theorem At.weak {e' : Env} {σ' : L2.St} (h : At K C W s σ H) (hl : e'.length = s.env.length) (hl2 : σ'.length = σ.length) (hs : ∀ (j : Nat) (sv : SV), e'[j]? = some (some sv) → s.env[j]? = some (some sv) ∧ σ'[j]? = σ[j]?) : At K C W { s with env := e' } σ' H := by
  refine ⟨h.ok, h.keep, h.pre, h.gro, by rw [hl2, h.len]; exact hl.symm, fun j d e => ?_, fun j xs e => ?_, fun j k xs ys a h1 h2 h3 h4 => ?_⟩
  · obtain ⟨e1, e2⟩ := hs j _ e
    rw [e2]
    exact h.val j d e1
  · obtain ⟨e1, e2⟩ := hs j _ e
    rw [e2]
    exact h.own j xs e1
  · obtain ⟨e1, e2⟩ := hs j _ h1
    obtain ⟨e3, e4⟩ := hs k _ h2
    rw [e2] at h3
    rw [e4] at h4
    exact h.dst j k xs ys a e1 e3 h3 h4
theorem At.wipeS (h : At K C W s σ H) (vs : List Nat) : At K C W { s with env := wip s.env vs } (L2.wipe σ vs) H :=
  h.weak (wip_length _ _) (wipe_length _ _) fun j sv e => ⟨(wip_some e).1, wipe_out (wip_some e).2⟩
theorem At.unwipe {vs : List Nat} (h : At K C W s (wipe σ vs) H) : At K C W { s with env := wip s.env vs } σ H :=
  h.weak (wip_length _ _) (wipe_length _ _).symm fun j sv e => ⟨(wip_some e).1, (wipe_out (wip_some e).2).symm⟩
theorem wip_wip (e : Env) (vs : List Nat) : wip (wip e vs) vs = wip e vs := by
  have hin : ∀ {e : Env} {j : Nat} {vs : List Nat}, j ∈ vs → j < e.length → (wip e vs)[j]? = some none := by
    intro e j vs
    induction vs with
    | nil => intro h; cases h
    | cons v vs ih =>
      intro h hl
      unfold wip
      by_cases hi : v = j
      · subst hi
        exact List.getElem?_set_self (by rw [wip_length]; exact hl)
      · rw [List.getElem?_set_ne hi]
        exact ih ((List.mem_cons.mp h).resolve_left fun e => hi e.symm) hl
  have hout : ∀ {e : Env} {j : Nat} {vs : List Nat}, j ∉ vs → (wip e vs)[j]? = e[j]? := by
    intro e j vs
    induction vs with
    | nil => intro _; rfl
    | cons v vs ih =>
      intro h
      unfold wip
      rw [List.getElem?_set_ne (fun z => h (by rw [z]; exact List.mem_cons_self))]
      exact ih fun m => h (List.mem_cons_of_mem _ m)
  apply List.ext_getElem?
  intro j
  by_cases hj : j ∈ vs
  · by_cases hlt : j < e.length
    · rw [hin hj (by rw [wip_length]; exact hlt), hin hj hlt]
    · rw [List.getElem?_eq_none (by rw [wip_length, wip_length]; omega), List.getElem?_eq_none (by rw [wip_length]; omega)]
  · rw [hout hj]
/-! ### what is walked -/
structure Walks (K : PySem.W.Frag) (J : It) (W : Vw) (xs : List PV) : Prop where
  go : ∀ {C : Ctx} {W' : Vw} {s : S} {σ : L2.St} {H : Hp} {i : Nat}, W.Le W' → At K C W' s σ H → i < xs.length → J.go i H
  yld : ∀ {C : Ctx} {W' : Vw} {s : S} {σ : L2.St} {H H' : Hp} {i : Nat} {x : V}, W.Le W' → At K C W' s σ H → i < xs.length → J.yld i H x H' → ∃ d W'', xs[i]? = some d ∧ W'.Le W'' ∧ At K C W'' s σ H' ∧ Rep K W'' x d
  stop : ∀ {C : Ctx} {W' : Vw} {s : S} {σ : L2.St} {H : Hp} {i : Nat}, W.Le W' → At K C W' s σ H → xs.length ≤ i → J.stop i H
def SrcOk (Y : WX) (wi : TI) (K : PySem.W.Frag) (c : M (List PV)) : Prop := ∀ (σ : L2.St) (H : Hp) (R : It → Hp → Prop), (∃ (C : Ctx) (W : Vw) (s : S), At K (C.wi Y) W s σ H ∧ Pst K (C.wi Y) W σ (c s) (fun xs _ W' H' => ∀ J, Walks K J W' xs → R J H')) → wi σ H R
theorem walks_lst {a : Addr} {vs : List V} {ds : List PV} (h : W.F a = some (.lst vs)) (r : Reps K W vs ds) : Walks K (Itl K a) W ds where
  go := fun {C W' s σ H i} l at' hi => by
    have e := at'.ok.sub _ _ (l.ex _ _ h)
    have hi' : i < vs.length := by rw [r.length]; exact hi
    exact ⟨vs, vs[i], SqL.of e, List.getElem?_eq_getElem hi'⟩
  yld := fun {C W' s σ H H' i x} l at' hi y => by
    obtain ⟨e, y⟩ := y
    subst e
    have e := at'.ok.sub _ _ (l.ex _ _ h)
    have hx := y vs (SqL.of e)
    obtain ⟨d, h1, h2⟩ := r.getV hx
    exact ⟨d, W', h1, Vw.Le.refl _, at', h2.mono l⟩
  stop := fun {C W' s σ H i} l at' hi => ⟨vs, SqL.of (at'.ok.sub _ _ (l.ex _ _ h)), by rw [r.length]; exact hi⟩
theorem walks_tup {a : Addr} {vs : List V} {ds : List PV} (h : SqT K W.F a vs) (r : Reps K W vs ds) : Walks K (Itt K a) W ds where
  go := fun {C W' s σ H i} l at' hi => by
    have e := same_t at'.ok.sub (same_t l.ex h)
    have hi' : i < vs.length := by rw [r.length]; exact hi
    exact ⟨vs, vs[i], e, List.getElem?_eq_getElem hi'⟩
  yld := fun {C W' s σ H H' i x} l at' hi y => by
    obtain ⟨e, y⟩ := y
    subst e
    have e := same_t at'.ok.sub (same_t l.ex h)
    have hx := y vs e
    obtain ⟨d, h1, h2⟩ := r.getV hx
    exact ⟨d, W', h1, Vw.Le.refl _, at', h2.mono l⟩
  stop := fun {C W' s σ H i} l at' hi => ⟨vs, same_t at'.ok.sub (same_t l.ex h), by rw [r.length]; exact hi⟩
theorem walks_rng {lo : Int} {n : Nat} : Walks K (Itr lo n) W ((List.range n).map fun (k : Nat) => PV.int (lo + (k : Int))) where
  go := fun {C W' s σ H i} l at' hi => by show i < n; simpa using hi
  yld := fun {C W' s σ H H' i x} l at' hi y => by
    obtain ⟨e, y⟩ := y
    subst e y
    have hi : i < n := by simpa using hi
    exact ⟨.int (lo + i), W', by simp [hi], Vw.Le.refl _, at', .int _⟩
  stop := fun {C W' s σ H i} l at' hi => by show n ≤ i; simpa using hi
def signsP (x : Str) : List PV := x.cps.toList.map fun c => .str ⟨#[c]⟩
theorem walks_str {x : Str} : Walks K (Its x) W (signsP x) where
  go := fun {C W' s σ H i} l at' hi => by
    show i < x.cps.size
    simpa [signsP] using hi
  yld := fun {C W' s σ H H' i v} l at' hi y => by
    obtain ⟨e, c, hc, ev⟩ := y
    subst e ev
    refine ⟨.str ⟨#[c]⟩, W', ?_, Vw.Le.refl _, at', .str _⟩
    unfold signsP
    rw [List.getElem?_map, Array.getElem?_toList, hc]
    rfl
  stop := fun {C W' s σ H i} l at' hi => by
    show x.cps.size ≤ i
    simpa [signsP] using hi
def itemsP : PV → Option (List PV)
  | .lst xs => some xs
  | .tup xs => some xs
  | .str x => some (signsP x)
  | _ => none
def itemsM (c : M PV) : M (List PV) := bnd c fun d => lft (itemsP d)
def iU (K : PySem.W.Frag) (te : TE) : TI := fun σ H R => (iList K te σ H R ∨ iTup K te σ H R) ∨ iStr te σ H R
theorem pi_u {X : Cx} {tg e : Expr} {te : TE} (h : PE X e te) : PI X tg e (iU X.K te) := ⟨fun pins s σ H R I q => by
  rcases q with (q | q) | q
  · exact (pi_list h).run pins s σ H R I q
  · exact (pi_tup h).run pins s σ H R I q
  · exact (pi_str h).run pins s σ H R I q⟩
theorem src_u : SrcOk Y (iU K (den K Y ca)) K (itemsM ca) := by
  intro σ H R ⟨C, W, s, at', p⟩
  have p := Pst.bnd p
  cases e : ca s with
  | exc _ _ => exact .inl (.inl ⟨C, W, s, at', by rw [e] at p ⊢; exact p⟩)
  | stk => rw [e] at p; exact p.elim
  | ok d s1 =>
    cases d with
    | lst xs =>
      refine .inl (.inl ⟨C, W, s, at', ?_⟩)
      rw [e] at p ⊢
      intro W1 H1 l1 at1 v rv
      have p1 := p W1 H1 l1 at1 W1 H1 (Vw.Le.refl _) at1
      cases rv with
      | lst hx rx => exact ⟨_, rfl, ⟨_, SqL.of (at1.ok.sub _ _ hx)⟩, p1 _ (walks_lst hx rx)⟩
    | tup xs =>
      refine .inl (.inr ⟨C, W, s, at', ?_⟩)
      rw [e] at p ⊢
      intro W1 H1 l1 at1 v rv
      have p1 := p W1 H1 l1 at1 W1 H1 (Vw.Le.refl _) at1
      cases rv with
      | tup hx rx => exact ⟨_, rfl, ⟨_, same_t at1.ok.sub hx⟩, p1 _ (walks_tup hx rx)⟩
    | str x =>
      refine .inr ⟨C, W, s, at', ?_⟩
      rw [e] at p ⊢
      intro W1 H1 l1 at1 v rv
      have p1 := p W1 H1 l1 at1 W1 H1 (Vw.Le.refl _) at1
      cases rv
      exact ⟨_, rfl, p1 _ walks_str⟩
    | _ =>
      refine .inl (.inl ⟨C, W, s, at', ?_⟩)
      rw [e] at p ⊢
      intro W1 H1 l1 at1
      exact (p W1 H1 l1 at1).elim
def rngP : PV → Option (List PV)
  | .int j => if -(2 ^ 62) ≤ j ∧ j < 2 ^ 62 then some ((List.range j.toNat).map fun (k : Nat) => PV.int (0 + (k : Int))) else none
  | _ => none
def rngM (c : M PV) : M (List PV) := bnd c fun d => lft (rngP d)
theorem src_rng : SrcOk Y (iRng1 (tCons (den K Y ca) tNil)) K (rngM ca) := by
  intro σ H R ⟨C, W, s, at', p⟩
  refine ⟨C, W, s, at', (Pst.bnd p).imp fun d s1 W1 H1 l1 at1 p1 v rv => ?_⟩
  obtain ⟨e', he, q⟩ := p1.lft'
  unfold rngP at he
  split at he
  · split at he
    · rename_i hj
      cases he
      cases rv
      exact ⟨_, rfl, hj.1, hj.2, q W1 H1 (Vw.Le.refl _) at1 _ walks_rng⟩
    · cases he
  · cases he
/-! ### [e for x in xs if t] -/
def lcGo (i : Nat) (vs : List Nat) (cond : M Bool) (elt : M PV) : List PV → List PV → M (List PV)
  | [], acc => ret acc
  | x :: r, acc => fun s => match cond { s with env := s.env.set i (some (.val x)) } with
    | .ok true s1 => match elt s1 with
      | .ok y s2 => if acc.length < sizeLine then lcGo i vs cond elt r (acc ++ [y]) { s2 with env := wip s2.env vs } else .stk
      | .exc _ _ => .stk
      | .stk => .stk
    | .ok false s1 => lcGo i vs cond elt r acc { s1 with env := wip s1.env vs }
    | .exc _ _ => .stk
    | .stk => .stk
def lcM (cs : M (List PV)) (i : Nat) (vs : List Nat) (cond : M Bool) (elt : M PV) : M (List PV) := bnd cs fun xs s => lcGo i vs cond elt xs [] { s with env := wip s.env vs }
theorem den_lc {Y' : WX} {wi : TI} {cs : M (List PV)} {vs : List Nat} {cond : M Bool} {elt : M PV} (hw : SrcOk Y wi K cs) (hi : i ∈ vs) (h : denO K Y (lcM cs i vs cond elt) σ H Q) : tLc wi (gName i) (denT K Y' cond) (den K Y' elt) vs σ H Q := by
  obtain ⟨C, W, s, at', p⟩ := h
  refine hw σ H _ ⟨C, W, s, at', (Pst.bnd p).imp fun xs s1 W1 H1 l1 at1 p1 J wk => ?_⟩
  intro D hD
  obtain ⟨hG, hh⟩ := at1.nohs hD
  refine ⟨fun k m H => k ≤ xs.length ∧ m = xs.length - k ∧ ∃ acc accV s2 W2, W1.Le W2 ∧ At K ((C.wi Y).res D (.lst accV)) W2 s2 (wipe σ vs) H ∧ wip s2.env vs = s2.env ∧ Reps K W2 accV acc ∧ Pst K (C.wi Y) W2 σ (lcGo i vs cond elt (xs.drop k) acc s2) (WantL K Q),
    ⟨xs.length, Nat.zero_le _, by simp, [], [], _, W1, Vw.Le.refl _, (at1.resIn hD (.lst [])).wipeS vs, wip_wip _ _, .nil, p1⟩, ?_⟩
  rintro k m H2 ⟨hk, rfl, acc, accV, s2, W2, l2, at2, hw2, ra, p2⟩
  by_cases hlt : k < xs.length
  · refine .inr ⟨wk.go l2 at2 hlt, fun H' => ∃ acc accV s2 W2, W1.Le W2 ∧ At K ((C.wi Y).res D (.lst accV)) W2 s2 (wipe σ vs) H' ∧ wip s2.env vs = s2.env ∧ Reps K W2 accV acc ∧ Pst K (C.wi Y) W2 σ (lcGo i vs cond elt (xs.drop (k + 1)) acc s2) (WantL K Q),
      fun H' q => ⟨xs.length - (k + 1), by omega, hlt, rfl, q⟩, fun x H' y => ?_⟩
    obtain ⟨d, W3, hd, l3, at3, rd⟩ := wk.yld l2 at2 hlt y
    have hdrop : xs.drop k = d :: xs.drop (k + 1) := by
      obtain ⟨h1, h2⟩ := List.getElem?_eq_some_iff.mp hd
      rw [List.drop_eq_getElem_cons h1, h2]
    rw [hdrop] at p2
    have at4 : At K ((C.wi Y).res D (.lst accV)) W3 { s2 with env := s2.env.set i (some (.val d)) } ((wipe σ vs).set i (some x)) H' := at3.set rd i
    have hw' : ∀ {τ : L2.St}, τ = (wipe σ vs).set i (some x) → wipe τ vs = wipe σ vs := by
      intro τ e
      subst e
      apply wipe_ext
      · rw [List.length_set, wipe_length]
      · intro j hj
        rw [List.getElem?_set_ne (fun z => hj (by rw [← z]; exact hi)), wipe_out hj]
    have toWipe : ∀ {C' : Ctx} {W' : Vw} {s' : S} {H' : Hp}, At K C' W' s' ((wipe σ vs).set i (some x)) H' → At K C' W' { s' with env := wip s'.env vs } (wipe σ vs) H' := fun {C' W' s' H'} a =>
      a.weak (wip_length _ _) (by rw [List.length_set]) fun j sv e => ⟨(wip_some e).1, by rw [List.getElem?_set_ne (fun z => (wip_some e).2 (by rw [← z]; exact hi))]⟩
    refine ⟨hw' rfl, C.res D (.lst accV), W3, _, at4.wi Y', ?_⟩
    have p3 : Pst K (C.wi Y) W3 σ (lcGo i vs cond elt (d :: xs.drop (k + 1)) acc s2) (WantL K Q) := p2.up l3
    cases ec : cond { s2 with env := s2.env.set i (some (.val d)) } with
    | exc e s3 =>
      unfold lcGo at p3
      simp only [ec] at p3
      exact p3.elim
    | stk =>
      unfold lcGo at p3
      simp only [ec] at p3
      exact p3.elim
    | ok b s3 =>
      intro W4 H4 l4 at5'
      have at5 : At K ((C.wi Y).res D (.lst accV)) W4 s3 _ H4 := at5'.wi Y
      cases b with
      | false =>
        unfold lcGo at p3
        simp only [ec] at p3
        show ∃ acc accV s2 W2, _
        exact ⟨acc, accV, _, W4, (l2.trans l3).trans l4, toWipe at5, wip_wip _ _, ra.mono (l3.trans l4), p3.up l4⟩
      | true =>
        unfold lcGo at p3
        simp only [ec] at p3
        show den K Y' elt _ H4 _
        refine ⟨C.res D (.lst accV), W4, s3, at5', ?_⟩
        cases ee : elt s3 with
        | exc e s4 => simp only [ee] at p3; exact p3.elim
        | stk => simp only [ee] at p3; exact p3.elim
        | ok y4 s4 =>
          simp only [ee] at p3
          split at p3
          · rename_i hsz
            intro W5 H5 l5 at6' v rv
            have at6 : At K ((C.wi Y).res D (.lst accV)) W5 s4 _ H5 := at6'.wi Y
            have hHD : H5 D = some (.lst accV) := at6.keep D _ upd_same hh
            refine ⟨accV, hHD, by rw [ra.length]; exact hsz, acc ++ [y4], accV ++ [v], _, W5, ((l2.trans l3).trans l4).trans l5, ?_, wip_wip _ _, (ra.mono ((l3.trans l4).trans l5)).append (.cons rv .nil), p3.up (l4.trans l5)⟩
            have at7 := toWipe at6
            obtain ⟨e1, e2, at8⟩ := at7.resOut hG hh
            have at9 := at8.resIn e1 (.lst (accV ++ [v]))
            have e3 : upd (del H5 D) D (.lst (accV ++ [v])) = upd H5 D (.lst (accV ++ [v])) := by
              rw [← e2, upd_upd, e2]
            rw [e3] at at9
            exact at9
          · exact p3.elim
  · have e : k = xs.length := by omega
    subst e
    refine .inl ⟨wk.stop l2 at2 (Nat.le_refl _), ?_⟩
    rw [List.drop_length] at p2
    obtain ⟨e1, e2, at3⟩ := at2.resOut hG hh
    have at4 := at3.unwipe
    rw [hw2] at at4
    have q := p2 W2 _ (Vw.Le.refl _) at4 D accV e1 ra
    rw [e2] at q
    exact q
end
/-! ### statements -/
section
variable {Y : WX} {K : PySem.W.Frag} {C : Ctx} {W W' : Vw} {σ : L2.St} {H : Hp} {s : S} {D : Ends} {i j k : Nat} {ca cb cd : M PV} {ta tb : TS} {fa fb : M Fl}
def skipM : M Fl := ret .nx
theorem den_skip (h : denS K Y skipM D σ H) : tNext D σ H := by
  obtain ⟨C, W, s, at', p⟩ := h
  exact p W σ H (Vw.Le.refl _) at'
def seqM (a b : M Fl) : M Fl := fun s => match a s with
  | .ok .nx s' => b s'
  | .ok fl s' => .ok fl s'
  | .exc e s' => .exc e s'
  | .stk => .stk
theorem den_seq (h : denS K Y (seqM fa fb) D σ H) : tSeq (denS K Y fa) (denS K Y fb) D σ H := by
  obtain ⟨C, W, s, at', p⟩ := h
  refine ⟨C, W, s, at', ?_⟩
  unfold seqM at p
  cases e : fa s with
  | exc _ _ => rw [e] at p; exact p
  | stk => rw [e] at p; exact p.elim
  | ok fl s1 =>
    rw [e] at p
    cases fl with
    | nx => exact fun W1 σ1 H1 l1 at1 => ⟨C, W1, s1, at1, p.up l1⟩
    | rt d => exact fun W1 σ1 H1 l1 at1 => p W1 σ1 H1 l1 at1
    | bk => exact fun W1 σ1 H1 l1 at1 => p W1 σ1 H1 l1 at1
    | ct => exact fun W1 σ1 H1 l1 at1 => p W1 σ1 H1 l1 at1
def ifM (t : M Bool) (a b : M Fl) : M Fl := bnd t fun x => if x = true then a else b
theorem den_if {t : M Bool} (h : denS K Y (ifM t fa fb) D σ H) : tIfS (denT K Y t) (denS K Y fa) (denS K Y fb) D σ H := by
  obtain ⟨C, W, s, at', p⟩ := h
  refine ⟨C, W, s, at', (PstS.bnd p).imp fun x s1 W1 H1 l1 at1 p1 => ?_⟩
  cases x with
  | true => exact ⟨C, W1, s1, at1, p1⟩
  | false => exact ⟨C, W1, s1, at1, p1⟩
def retM (c : M PV) : M Fl := bnd c fun d => ret (.rt d)
theorem den_return (h : denS K Y (retM ca) D σ H) : tRet (den K Y ca) D σ H := by
  obtain ⟨C, W, s, at', p⟩ := h
  exact ⟨C, W, s, at', (PstS.bnd p).imp fun x s1 W1 H1 l1 at1 p1 => p1 W1 σ H1 (Vw.Le.refl _) at1⟩
def dropM (c : M PV) : M Fl := bnd c fun _ => ret .nx
theorem den_drop (h : denS K Y (dropM ca) D σ H) : tDrop (den K Y ca) D σ H := by
  obtain ⟨C, W, s, at', p⟩ := h
  exact ⟨C, W, s, at', (PstS.bnd p).imp fun x s1 W1 H1 l1 at1 p1 v _ => p1 W1 σ H1 (Vw.Le.refl _) at1⟩
def setV (i : Nat) (d : PV) : M Unit := fun s => .ok () { s with env := s.env.set i (some (.val d)) }
def setO (i : Nat) (xs : List PV) : M Unit := fun s => .ok () { s with env := s.env.set i (some (.own xs)) }
def asgM (i : Nat) (c : M PV) : M Fl := bnd c fun d => bnd (setV i d) fun _ => ret .nx
def asgO (i : Nat) (c : M (List PV)) : M Fl := bnd c fun d => bnd (setO i d) fun _ => ret .nx
theorem den_asg (h : denS K Y (asgM i ca) D σ H) : tAsg (den K Y ca) (gName i) D σ H := by
  obtain ⟨C, W, s, at', p⟩ := h
  exact ⟨C, W, s, at', (PstS.bnd p).imp fun x s1 W1 H1 l1 at1 p1 v rv => p1 W1 _ H1 (Vw.Le.refl _) (at1.set rv i)⟩
theorem den_asgO {c : M (List PV)} (h : denS K Y (asgO i c) D σ H) : tAsg (denO K Y c) (gName i) D σ H := by
  obtain ⟨C, W, s, at', p⟩ := h
  exact ⟨C, W, s, at', (PstS.bnd p).imp fun x s1 W1 H1 l1 at1 p1 q vs hq rvs => p1 W1 _ _ (Vw.Le.refl _) (at1.setO hq rvs i)⟩
/-! two, three names at once -/
def par2 (i j : Nat) (ca cb : M PV) : M Fl := bnd ca fun a => bnd cb fun b => bnd (setV i a) fun _ => bnd (setV j b) fun _ => ret .nx
theorem den_par2 (h : denS K Y (par2 i j ca cb) D σ H) : tPar i j (tCons (den K Y ca) (tCons (den K Y cb) tNil)) D σ H := by
  obtain ⟨C, W, s, at', p⟩ := h
  refine ⟨C, W, s, at', (PstS.bnd p).imp fun x s1 W1 H1 l1 at1 p1 v rv => ⟨C, W1, s1, at1, (PstS.bnd p1).imp fun y s2 W2 H2 l2 at2 p2 w rw' => ?_⟩⟩
  exact ⟨v, w, rfl, p2 W2 _ H2 (Vw.Le.refl _) ((at2.set (rv.mono l2) i).set rw' j)⟩
def par2VO (i j : Nat) (ca : M PV) (cb : M (List PV)) : M Fl := bnd ca fun a => bnd cb fun b => bnd (setV i a) fun _ => bnd (setO j b) fun _ => ret .nx
def par2OO (i j : Nat) (ca cb : M (List PV)) : M Fl := bnd ca fun a => bnd cb fun b => bnd (setO i a) fun _ => bnd (setO j b) fun _ => ret .nx
theorem den_par2OO {ca cb : M (List PV)} (h : denS K Y (par2OO i j ca cb) D σ H) : tPar i j (tCons (denO K Y ca) (tCons (denO K Y cb) tNil)) D σ H := by
  obtain ⟨C, W, s, at', p⟩ := h
  refine ⟨C, W, s, at', (PstS.bnd p).imp fun xs s1 W1 H1 l1 at1 p1 a vs ha rvs => ?_⟩
  obtain ⟨hG, hh⟩ := at1.nohs ha
  have p2 : Pst K (C.wi Y) W1 σ (cb s1) _ := PstS.bnd p1
  refine ⟨C.res a (.lst vs), W1, s1, at1.resIn ha (.lst vs), (p2.res hG hh).imp fun ys s2 W2 H2 l2 at2 p3 b ws hb rws => ?_⟩
  obtain ⟨e1, e2, at3⟩ := at2.resOut hG hh
  have at4 := at3.setO e1 (rvs.mono l2) i
  rw [e2] at at4
  exact ⟨_, _, rfl, p3 W2 _ _ (Vw.Le.refl _) (at4.setO hb rws j)⟩
def par3 (i j k : Nat) (ca cb cd : M PV) : M Fl := bnd ca fun a => bnd cb fun b => bnd cd fun d => bnd (setV i a) fun _ => bnd (setV j b) fun _ => bnd (setV k d) fun _ => ret .nx
theorem den_par3 (h : denS K Y (par3 i j k ca cb cd) D σ H) : tPar3 i j k (tCons (den K Y ca) (tCons (den K Y cb) (tCons (den K Y cd) tNil))) D σ H := by
  obtain ⟨C, W, s, at', p⟩ := h
  refine ⟨C, W, s, at', (PstS.bnd p).imp fun x s1 W1 H1 l1 at1 p1 v rv => ⟨C, W1, s1, at1, (PstS.bnd p1).imp fun y s2 W2 H2 l2 at2 p2 w rw' => ⟨C, W2, s2, at2, (PstS.bnd p2).imp fun z s3 W3 H3 l3 at3 p3 u ru => ?_⟩⟩⟩
  exact ⟨v, w, u, rfl, p3 W3 _ H3 (Vw.Le.refl _) (((at3.set (rv.mono (l2.trans l3)) i).set (rw'.mono l3) j).set ru k)⟩
/-! ### for, while -/
def forM (i : Nat) (body : M Fl) : List PV → M Fl
  | [] => ret .nx
  | x :: r => fun s => match body { s with env := s.env.set i (some (.val x)) } with
    | .ok .nx s' => forM i body r s'
    | .ok .ct s' => forM i body r s'
    | .ok .bk s' => .ok .nx s'
    | .ok (.rt d) s' => .ok (.rt d) s'
    | .exc e s' => .exc e s'
    | .stk => .stk
def loopM (cs : M (List PV)) (i : Nat) (body : M Fl) : M Fl := bnd cs fun xs => forM i body xs
theorem den_for {wi : TI} {cs : M (List PV)} (hw : SrcOk Y wi K cs) (h : denS K Y (loopM cs i fa) D σ H) : tFor wi (gName i) (denS K Y fa) D σ H := by
  obtain ⟨C, W, s, at', p⟩ := h
  refine hw σ H _ ⟨C, W, s, at', (PstS.bnd p).imp fun xs s1 W1 H1 l1 at1 p1 J wk => ?_⟩
  refine ⟨fun k m σ H => k ≤ xs.length ∧ m = xs.length - k ∧ ∃ s2 W2, W1.Le W2 ∧ At K (C.wi Y) W2 s2 σ H ∧ PstS K (C.wi Y) W2 D (forM i fa (xs.drop k) s2), ⟨xs.length, Nat.zero_le _, by simp, s1, W1, Vw.Le.refl _, at1, p1⟩, ?_⟩
  rintro k m σ2 H2 ⟨hk, rfl, s2, W2, l2, at2, p2⟩
  by_cases hlt : k < xs.length
  · refine .inr ⟨wk.go l2 at2 hlt, fun σ' H' => ∃ s2 W2, W1.Le W2 ∧ At K (C.wi Y) W2 s2 σ' H' ∧ PstS K (C.wi Y) W2 D (forM i fa (xs.drop (k + 1)) s2), fun σ' H' q => ⟨xs.length - (k + 1), by omega, hlt, rfl, q⟩, fun x H' y => ?_⟩
    obtain ⟨d, W3, hd, l3, at3, rd⟩ := wk.yld l2 at2 hlt y
    have hdrop : xs.drop k = d :: xs.drop (k + 1) := by
      obtain ⟨h1, h2⟩ := List.getElem?_eq_some_iff.mp hd
      rw [List.drop_eq_getElem_cons h1, h2]
    rw [hdrop] at p2
    refine ⟨C, W3, _, at3.set rd i, ?_⟩
    have p3 := p2.up l3
    unfold forM at p3
    cases e : fa { s2 with env := s2.env.set i (some (.val d)) } with
    | exc _ _ => simp only [e] at p3; exact p3
    | stk => simp only [e] at p3; exact p3.elim
    | ok fl s4 =>
      simp only [e] at p3
      cases fl with
      | nx => exact fun W4 σ4 H4 l4 at4 => ⟨s4, W4, (l2.trans l3).trans l4, at4, p3.up l4⟩
      | ct => exact fun W4 σ4 H4 l4 at4 => ⟨s4, W4, (l2.trans l3).trans l4, at4, p3.up l4⟩
      | bk => exact fun W4 σ4 H4 l4 at4 => p3 W4 σ4 H4 l4 at4
      | rt r => exact fun W4 σ4 H4 l4 at4 => p3 W4 σ4 H4 l4 at4
  · have e : k = xs.length := by omega
    subst e
    rw [List.drop_length] at p2
    exact .inl ⟨wk.stop l2 at2 (Nat.le_refl _), p2 W2 σ2 H2 (Vw.Le.refl _) at2⟩
def whM (t : M Bool) (body : M Fl) : Nat → M Fl
  | 0 => stuck
  | n + 1 => bnd t fun x => if x = true then (fun s => match body s with
    | .ok .nx s' => whM t body n s'
    | .ok .ct s' => whM t body n s'
    | .ok .bk s' => .ok .nx s'
    | .ok (.rt d) s' => .ok (.rt d) s'
    | .exc e s' => .exc e s'
    | .stk => .stk) else ret .nx
theorem den_while {t : M Bool} {n : Nat} (h : denS K Y (whM t fa n) D σ H) : tWhile (denT K Y t) (denS K Y fa) D σ H := by
  obtain ⟨C, W, s, at', p⟩ := h
  refine ⟨fun m σ H => ∃ s W, At K (C.wi Y) W s σ H ∧ PstS K (C.wi Y) W D (whM t fa m s), ⟨n, s, W, at', p⟩, ?_⟩
  rintro m σ1 H1 ⟨s1, W1, at1, p1⟩
  cases m with
  | zero => exact p1.elim
  | succ m =>
    refine ⟨C, W1, s1, at1, (PstS.bnd p1).imp fun x s2 W2 H2 l2 at2 p2 => ?_⟩
    cases x with
    | false => exact p2 W2 σ1 H2 (Vw.Le.refl _) at2
    | true =>
      refine ⟨fun σ' H' => ∃ s W, At K (C.wi Y) W s σ' H' ∧ PstS K (C.wi Y) W D (whM t fa m s), fun σ' H' q => ⟨m, Nat.lt_succ_self m, q⟩, C, W2, s2, at2, ?_⟩
      simp only [if_true] at p2
      cases e : fa s2 with
      | exc _ _ => simp only [e] at p2; exact p2
      | stk => simp only [e] at p2; exact p2.elim
      | ok fl s4 =>
        simp only [e] at p2
        cases fl with
        | nx => exact fun W4 σ4 H4 l4 at4 => ⟨s4, W4, at4, p2.up l4⟩
        | ct => exact fun W4 σ4 H4 l4 at4 => ⟨s4, W4, at4, p2.up l4⟩
        | bk => exact fun W4 σ4 H4 l4 at4 => p2 W4 σ4 H4 l4 at4
        | rt r => exact fun W4 σ4 H4 l4 at4 => p2 W4 σ4 H4 l4 at4
end
end Dn
/-! Den5: defs and their calls (with the guards known: repr), the law's end. -/
namespace Dn
open PySem L2 PySem.Spec PyProof.Rows
/-! ### a def's promise, where no list is being shown -/
structure FnG (P : Program) (w : World) (K : PySem.W.Frag) (mg : Str → Option Value) (base : Heap) (CX : CXT) (k : Nat) (f : Addr) (fd : FuncData) (ps : List Str) (sp : Sp) : Prop where
  len : ∀ vs H Q E, sp vs H Q E → vs.length = ps.length
  run : ∀ (A : Around) (outer : List PySem.Env) (s : Shared) (H : Hp) (args : Args) (us : List Value) (vs : List V) (Q : VK) (E : XK), A.guards = some [] → Room k A → Env0 P w K mg base A outer s H → BindsTo s fd args (ps.zip us) → Vals vs us → sp vs H Q E →
    codeAny (model P w) A (.call (.ref f) args) (CR CX outer P w H s Q E) s
theorem FnG.mono {P : Program} {w : World} {K : PySem.W.Frag} {mg : Str → Option Value} {base : Heap} {CX : CXT} {j k : Nat} {f : Addr} {fd : FuncData} {ps : List Str} {sp : Sp} (F : FnG P w K mg base CX j f fd ps sp) (h : j ≤ k) :
    FnG P w K mg base CX k f fd ps sp := ⟨F.len, fun A outer s H args us vs Q E hg hr => F.run A outer s H args us vs Q E hg (hr.mono h)⟩
theorem fn_ofG {CX : CXT} {P : Program} {w : World} {K : PySem.W.Frag} {mg : Str → Option Value} {base : Heap} {k : Nat} {f : Addr} {name qual : Str} {params : Arguments} {body : List Stmt} {scope : Scope} {dV kV doc pm cdv ct oc : Value} {an od : Option Addr}
    {osl : Array (Option Value)} {N ps : List Str} {sp : Sp} (lk : K.lookup f = some ⟨oc, od, .func (PySem.W.fnOf name qual params body scope dV kV doc pm an cdv ct), osl⟩) (hcd : PySem.W.codeIn K cdv qual = true) (S : FnScope N ps scope)
    (len : ∀ vs H Q E, sp vs H Q E → vs.length = ps.length)
    (hbody : ∀ (A : Around) (outer : List PySem.Env) (s : Shared) (H : Hp) (vs : List V) (Q : VK) (E : XK), (A.deeper (envOfC qual scope s.heap.objs.size f cdv)).guards = some [] → Room k (A.deeper (envOfC qual scope s.heap.objs.size f cdv)) → sp vs H Q E →
      ∃ t, PSs (cxOf CX P w K mg base N qual scope f cdv A outer s H E) body t ∧ t { nx := fun _ H' => Q .non H', rt := Q } (L2.start N vs) H) :
    FnG P w K mg base CX (k + 1) f (PySem.W.fnOf name qual params body scope dV kV doc pm an cdv ct) ps sp := by
  refine ⟨len, fun A outer s H args us vs Q E hgd hr e0 hb r hsp => ?_⟩
  have hl := len _ _ _ _ hsp
  have KX : K.In s.heap := e0.mod.kin.keeps fun b o e => (e0.bs b o e).1
  have lim : s.heap.NoLimit := e0.mod.nolimit.keeps fun b o e => (e0.bs b o e).1
  have hkind : ∀ y ∈ ps.zip us, scope.names.lookup y.1 = some .local ∨ (scope.names.lookup y.1 = some .cell ∧ ((cellsFrom (s.heap.objs.size + 1) scope.names []).lookup y.1).isSome = true) := fun ⟨n, v⟩ hy => by
    rcases S.par n (List.of_mem_zip hy).1 with q | q
    · exact .inl q
    · exact .inr ⟨q, PySem.W.cellsFrom_some _ _ _ (.inl q)⟩
  refine codeAny_call_function hr.depth (KX _ _ lk) rfl S.co S.gen rfl (PySem.W.codeRec_of KX hcd) (hb _ _ _ _ ?_)
  refine wpAny_newFunctionEnv_cells S.kind hkind fun env he s1 x => ?_
  subst he
  refine ⟨lim.keeps x.toInCall.keep, codeAny_func ?_⟩
  obtain ⟨t, ht, hq⟩ := hbody A outer s H vs Q E hgd (hr.deeper _) hsp
  have I : Inv (cxOf CX P w K mg base N qual scope f cdv A outer s H E) [] (L2.start N vs) H s1 := inv_start S hr.hd e0 hl r x
  refine wpAny_mono (ht.run [] s1 (L2.start N vs) H _ I hq) (fun fl s' hs => ?_) fun e s' hs => hs
  have fin : ∀ {σ' : L2.St} {H' : Hp} {v : V} {u : Value}, Inv (cxOf CX P w K mg base N qual scope f cdv A outer s H E) [] σ' H' s' → RelV v u → Q v H' → CE outer P w H s Q u s' :=
    fun {σ' H' v u} J rv q => ⟨v, H', J.os, J.bare, J.base, J.hok, rv, q⟩
  cases fl with
  | ret u =>
    obtain ⟨v, σ', H', J, rv, q⟩ := hs
    exact fin J rv q
  | next =>
    obtain ⟨σ', H', J, q⟩ := hs
    exact fin (v := V.non) (u := Value.none) J rfl q
  | brk =>
    obtain ⟨_, _, _, q⟩ := hs
    exact False.elim q
  | cont =>
    obtain ⟨_, _, _, q⟩ := hs
    exact False.elim q
/-! ### calls -/
section
variable {Y : WX} {X : Cx} {CX : CXT} {k : Nat} {f C : Addr} {fd : FuncData} {ps : List Str} {sp : Sp} {E : XK} {x m : Str} {p pos apos : Pos} {e o : Expr} {es : List Expr} {ta : TE} {t : TA}
/-- the def at f, called with what binds to us -/
theorem run_fnG {pins : List (Addr × Obj)} {σ : L2.St} {H : Hp} {s : Shared} {Q : VK} {us zs : List Value} {kw : List (Str × Value)} {vs : List V} (F : FnG X.prog X.w X.K X.mg X.base CX k f fd ps sp) (hgd : X.A.guards = some []) (hr : Room k X.A) (hx : PassesAt CX X σ E)
    (I : Inv X pins σ H s) (hb : BindsTo s fd ⟨us, kw⟩ (ps.zip zs)) (r : Vals vs zs) (h : sp vs H Q E) : wpAny (model X.prog X.w) X.A (call (.ref f) us kw) (EP X pins σ Q) X.xe s := by
  have go := F.run X.A X.stack s H ⟨us, kw⟩ zs vs Q E hgd hr I.env0 hb r h
  refine wpAny_call (codeAny_mono go fun res s' hq => ?_)
  match res, hq with
  | .error e, hq => exact hx pins H s e s' I hq
  | .ok (.ret u), hq => exact I.after hq
  | .ok .next, hq => exact False.elim hq
  | .ok .brk, hq => exact False.elim hq
  | .ok .cont, hq => exact False.elim hq
/-- f(e, ..) -/
theorem pe_callG {E : L2.St → XK} (F : FnG X.prog X.w X.K X.mg X.base CX k f fd ps sp) (hgd : X.A.guards = some []) (hr : Room k X.A) (hg : Gl X x) (hm : X.mg x = some (.ref f)) (hk : PySem.W.keepIn X.K (.ref f) = true) (hb : Binds X.K fd ps []) (hx : ∀ σ, PassesAt CX X σ (E σ))
    (ha : PA X (e :: es) t) (hdb : (x == ("__debug__" : Str)) = false := by decide) (he : starEach (e :: es) X.env = (false, eval e X.env) :: starEach es X.env := by rfl) (hpl : (backTo pos (starEach es X.env)).any (·.1) = false := by rfl) :
    PE X (.Call (.Name x p) (e :: es) [] pos) (tCallS sp E t) := by
  refine ⟨fun pins s σ H Q I h => wpAny_Call_Name_kw (ld_glob I hg hm ?_ hdb)⟩
  have I0 := I.ok.mod.kin
  refine PySem.W.callWith_K (h₀ := X.base) I0 hk (thn (ha.run pos pins s σ H _ I h) ?_) he hpl
  rintro us s1 ⟨vs, H1, I1, r, q⟩
  have hl : (us ++ []).length = ps.length := by rw [List.append_nil, ← r.length]; exact F.len _ _ _ _ q
  have bd := hb s1 us I1.kIn hl
  rw [List.append_nil] at bd
  exact ⟨I1.kIn, run_fnG F hgd hr (hx σ) I1 bd r q⟩
end
/-! ### promises by computations -/
abbrev RR := Res (List MO) PV
abbrev Fn := Nat → List PV → List MO → RR
structure Grow (W W' : Vw) (H H' : Hp) : Prop where
  keep : ∀ a o, H a = some o → a ∉ W.hs → H' a = some o
  gro : ∀ a, H a ≠ none → W'.F a = W.F a ∧ (a ∈ W'.hs → a ∈ W.hs)
def SpPost (K : PySem.W.Frag) (W : Vw) (H : Hp) (Q : VK) (E : XK) : RR → Prop
  | .ok d st' => ∀ v W' H', W.Le W' → Okk K W' st' H' → Grow W W' H H' → Rep K W' v d → Q v H'
  | .exc e st' => ∀ W' H' cls d, W.Le W' → Okk K W' st' H' → Grow W W' H H' → ERep K W' cls d e → E cls d H'
  | .stk => False
def spM (K : PySem.W.Frag) (np : Nat) (m : Fn) : Sp := fun vs H Q E => vs.length = np ∧ ∃ n W st ds, Okk K W st H ∧ Reps K W vs ds ∧ SpPost K W H Q E (m n ds st)
def callM (m : Fn) (n : Nat) (cs : M (List PV)) : M PV := bnd cs fun ds s => match m n ds s.sto with
  | .ok d st' => .ok d { s with sto := st' }
  | .exc e st' => .exc e { s with sto := st' }
  | .stk => .stk
section
variable {Y : WX} {K : PySem.W.Frag} {C : Ctx} {W W' : Vw} {σ : L2.St} {H H' : Hp} {s : S} {Q : VK} {E : XK} {np n : Nat} {m : Fn} {cs : M (List PV)}
theorem At.call {st' : List MO} (h : At K C W s σ H) (l : W.Le W') (ok : Okk K W' st' H') (g : Grow W W' H H') : At K C W' { s with sto := st' } σ H' := by
  have tr : ∀ {a : Addr}, C.G a ≠ none → H a ≠ none := fun {a} ha => by
    cases e : C.G a with
    | none => exact absurd e ha
    | some o =>
      by_cases hm : a ∈ C.hs0
      · obtain ⟨i, hi⟩ := List.getElem?_of_mem hm
        exact h.ok.some (h.pre i a hi)
      · rw [h.keep a o e hm]
        exact fun z => nomatch z
  refine ⟨ok, fun a o e ha => ?_, fun i a e => l.pre i a (h.pre i a e), fun a ha => ?_, h.len, fun i d e => ?_, fun i xs e => ?_, h.dst⟩
  · refine g.keep a o (h.keep a o e ha) fun hm => ha ?_
    exact (h.gro a (by rw [e]; exact fun z => nomatch z)).2 hm
  · obtain ⟨g1, g2⟩ := g.gro a (tr ha)
    obtain ⟨k1, k2⟩ := h.gro a ha
    exact ⟨g1.trans k1, fun z => k2 (g2 z)⟩
  · obtain ⟨v, e1, r⟩ := h.val i d e
    exact ⟨v, e1, r.mono l⟩
  · obtain ⟨a, vs, e1, ow, e2, r⟩ := h.own i xs e
    obtain ⟨g1, g2⟩ := g.gro a (by rw [e2]; exact fun z => nomatch z)
    exact ⟨a, vs, e1, ⟨g1.trans ow.f, fun z => ow.h (g2 z), ow.g⟩, g.keep a _ e2 ow.h, r.mono l⟩
theorem den_call (hl : ∀ ds st, m n ds st ≠ .stk → ds.length = np) (h : den K Y (callM m n cs) σ H Q) : tCallS (spM K np m) (WE Y) (denA K Y cs) σ H Q := by
  obtain ⟨C, W, s, at', p⟩ := h
  refine ⟨C, W, s, at', (Pst.bnd p).imp fun ds s1 W1 H1 l1 at1 p1 vs rvs => ?_⟩
  show spM K np m vs H1 Q (WE Y σ)
  have len : ∀ {r : RR}, m n ds s1.sto = r → r ≠ .stk → vs.length = np := fun {r} e z => by rw [rvs.length]; exact hl _ _ (by rw [e]; exact z)
  cases e : m n ds s1.sto with
  | exc x st' =>
    simp only [e] at p1
    refine ⟨len e (fun z => nomatch z), n, W1, s1.sto, ds, at1.ok, rvs, ?_⟩
    rw [e]
    exact fun W' H' cls d l ok g r => p1 W' σ H' cls d l (at1.call l ok g) r
  | stk => simp only [e] at p1; exact p1.elim
  | ok d st' =>
    simp only [e] at p1
    refine ⟨len e (fun z => nomatch z), n, W1, s1.sto, ds, at1.ok, rvs, ?_⟩
    rw [e]
    exact fun v W' H' l ok g r => p1 W' H' l (at1.call l ok g) v r
/-- a def's answer from its body's -/
def fnM (np nn : Nat) (body : Nat → M Fl) : Fn := fun n ds st => if ds.length = np then (match body n ⟨ds.map (fun d => some (SV.val d)) ++ List.replicate (nn - np) none, st⟩ with
  | .ok (.rt d) s' => .ok d s'.sto
  | .ok .nx s' => .ok .non s'.sto
  | .ok .bk _ => .stk
  | .ok .ct _ => .stk
  | .exc e s' => .exc e s'.sto
  | .stk => .stk) else .stk
theorem fnM_len {nn : Nat} {body : Nat → M Fl} {ds : List PV} {st : List MO} (h : fnM np nn body n ds st ≠ .stk) : ds.length = np := by
  unfold fnM at h
  split at h
  · assumption
  · exact absurd rfl h
end
/-- a def's wish about exceptions, in its body -/
abbrev yE (E : XK) : WX := fun cls d _ H => E cls d H
/-- a body's start -/
theorem start_den {K : PySem.W.Frag} {N ps : List Str} {body : Nat → M Fl} {vs : List V} {H : Hp} {Q : VK} {E : XK} (hN : ps.length ≤ N.length) (hsp : spM K ps.length (fnM ps.length N.length body) vs H Q E) :
    ∃ n, denS K (yE E) (body n) { nx := fun _ H' => Q .non H', rt := Q } (L2.start N vs) H := by
  obtain ⟨hl, n, W, sto, ds, ok, rv, post⟩ := hsp
  have hds : ds.length = ps.length := by rw [← rv.length]; exact hl
  refine ⟨n, ⟨H, W.F, W.hs, yE E⟩, W, ⟨ds.map (fun d => some (SV.val d)) ++ List.replicate (N.length - ps.length) none, sto⟩, ?_, ?_⟩
  · refine ⟨ok, fun a o e _ => e, fun i a e => e, fun a _ => ⟨rfl, fun z => z⟩, ?_, fun i d e => ?_, fun i xs e => ?_, fun i j xs ys a h1 _ _ _ => ?_⟩
    · unfold L2.start
      rw [List.length_append, List.length_append, List.length_map, List.length_map, List.length_replicate, List.length_replicate, hl, hds]
    · have e : (ds.map (fun d => some (SV.val d)) ++ List.replicate (N.length - ps.length) none)[i]? = some (some (.val d)) := e
      by_cases hi : i < ds.length
      · rw [List.getElem?_append_left (by rw [List.length_map]; exact hi), List.getElem?_map] at e
        obtain ⟨d', hd', e2⟩ := Option.map_eq_some_iff.mp e
        cases e2
        obtain ⟨v, hv, r⟩ := rv.get hd'
        refine ⟨v, ?_, r⟩
        unfold L2.start
        rw [List.getElem?_append_left (by rw [List.length_map, hl, ← hds]; exact hi), List.getElem?_map, hv]
        rfl
      · rw [List.getElem?_append_right (by rw [List.length_map]; omega), List.getElem?_replicate] at e
        split at e <;> cases e
    · have e : (ds.map (fun d => some (SV.val d)) ++ List.replicate (N.length - ps.length) none)[i]? = some (some (.own xs)) := e
      by_cases hi : i < ds.length
      · rw [List.getElem?_append_left (by rw [List.length_map]; exact hi), List.getElem?_map] at e
        obtain ⟨d', hd', e2⟩ := Option.map_eq_some_iff.mp e
        cases e2
      · rw [List.getElem?_append_right (by rw [List.length_map]; omega), List.getElem?_replicate] at e
        split at e <;> cases e
    · have e : (ds.map (fun d => some (SV.val d)) ++ List.replicate (N.length - ps.length) none)[i]? = some (some (.own xs)) := h1
      by_cases hi : i < ds.length
      · rw [List.getElem?_append_left (by rw [List.length_map]; exact hi), List.getElem?_map] at e
        obtain ⟨d', hd', e2⟩ := Option.map_eq_some_iff.mp e
        cases e2
      · rw [List.getElem?_append_right (by rw [List.length_map]; omega), List.getElem?_replicate] at e
        split at e <;> cases e
  · unfold fnM at post
    rw [if_pos hds] at post
    cases e : body n ⟨ds.map (fun d => some (SV.val d)) ++ List.replicate (N.length - ps.length) none, sto⟩ with
    | exc x s' =>
      simp only [e] at post
      exact fun W' σ' H' cls d l a r => post W' H' cls d l a.ok ⟨fun b o e hb => a.keep b o e hb, fun b hb => a.gro b hb⟩ r
    | stk => simp only [e] at post; exact post.elim
    | ok fl s' =>
      simp only [e] at post
      have gr : ∀ {W' : Vw} {σ' : L2.St} {H' : Hp}, At K ⟨H, W.F, W.hs, yE E⟩ W' s' σ' H' → Grow W W' H H' := fun a => ⟨fun b o e hb => a.keep b o e hb, fun b hb => a.gro b hb⟩
      cases fl with
      | nx => exact fun W' σ' H' l a => post .non W' H' l a.ok (gr a) .non
      | rt d => exact fun W' σ' H' l a v rv => post v W' H' l a.ok (gr a) rv
      | bk => exact post.elim
      | ct => exact post.elim
/-- a def of the text behind the top, whatever its defaults -/
structure Fun (K : PySem.W.Frag) (x qual : Str) (st : Stmt) (f : Addr) (fd : FuncData) : Prop where
  ex : ∃ (oc : Value) (od : Option Addr) (dV kV doc pm : Value) (an : Option Addr) (cdv ct : Value) (osl : Array (Option Value)),
    fd = PySem.W.fnOf x qual (defArgs st) (defBody st) (defScope st) dV kV doc pm an cdv ct ∧ K.lookup f = some ⟨oc, od, .func fd, osl⟩ ∧ PySem.W.codeIn K cdv qual = true
  kp : PySem.W.keepIn K (.ref f) = true
theorem funMk {K : PySem.W.Frag} {x qual : Str} {st : Stmt} {f : Addr} {oc : Value} {od an : Option Addr} {osl : Array (Option Value)} {dV kV doc pm cdv ct : Value} (l : K.lookup f = some ⟨oc, od, .func (PySem.W.fnOf x qual (defArgs st) (defBody st) (defScope st) dV kV doc pm an cdv ct), osl⟩)
    (c : PySem.W.codeIn K cdv qual = true) (k : PySem.W.keepIn K (.ref f) = true) : Fun K x qual st f (PySem.W.fnOf x qual (defArgs st) (defBody st) (defScope st) dV kV doc pm an cdv ct) := ⟨⟨oc, od, dV, kV, doc, pm, an, cdv, ct, osl, rfl, l, c⟩, k⟩
/-- THE RULE: a def keeps the promise of its computation -/
theorem fn_den {P : Program} {w : World} {K : PySem.W.Frag} {mg : Str → Option Value} {base : Heap} {k : Nat} {f : Addr} {fd : FuncData} {x qual : Str} {st : Stmt} {N ps : List Str} {body : Nat → M Fl}
    (F : Fun K x qual st f fd) (S : FnScope N ps (defScope st)) (hN : ps.length ≤ N.length)
    (hbody : ∀ (cdv : Value) (A : Around) (outer : List PySem.Env) (s : Shared) (H : Hp) (E : XK) (n : Nat), (A.deeper (envOfC qual (defScope st) s.heap.objs.size f cdv)).guards = some [] → Room k (A.deeper (envOfC qual (defScope st) s.heap.objs.size f cdv)) →
      Takes (cxOf (L2.CX P w) P w K mg base N qual (defScope st) f cdv A outer s H E) (yE E) →
      PSs (cxOf (L2.CX P w) P w K mg base N qual (defScope st) f cdv A outer s H E) (defBody st) (denS K (yE E) (body n))) :
    FnG P w K mg base (L2.CX P w) (k + 1) f fd ps (spM K ps.length (fnM ps.length N.length body)) := by
  obtain ⟨oc, od, dV, kV, doc, pm, an, cdv, ct, osl, rfl, lk, hcd⟩ := F.ex
  refine fn_ofG lk hcd S (fun vs H Q E h => h.1) fun A outer s H vs Q E hgd hr hsp => ?_
  obtain ⟨n, h⟩ := start_den hN hsp
  exact ⟨_, hbody cdv A outer s H E n hgd hr (takes_of rfl rfl rfl rfl), h⟩
/-! ### repr -/
def encK : Key → PyData
  | .inl i => .int i
  | .inr x => .str x
def dicD (kvs : List (Str × Int)) : PyData := .dict (kvs.map fun p => (.str p.1, .int p.2))
theorem pairsRead_ints {h : Heap} : ∀ (kvs : List (Str × Int)) {vs : List (Key × Value)}, KV (kvs.map fun p => ((Sum.inr p.1 : Key), V.int p.2)) vs → PyProof.V.PairsRead h encK vs (kvs.map fun p => (.str p.1, .int p.2)) []
  | [], _, .nil => .nil
  | (x, i) :: r, _, .cons (b := (k, v)) ⟨h1, h2⟩ t => by
    obtain ⟨tk, e⟩ := (show ∃ tk, v = Value.int i tk from h2)
    have h1 : (Sum.inr x : Key) = k := h1
    subst e
    subst h1
    exact PyProof.V.PairsRead.cons (enc := encK) (k := (Sum.inr x : Key)) (as := []) (.int i tk) (pairsRead_ints r t)
def rRepr (K : PySem.W.Frag) : List V → Hp → VK → Prop := fun vs H Q => (∃ x d, vs = [x] ∧ Dp K H x d ∧ d.showable = true ∧ d.hasDict = false ∧ d.depth ≤ 64 ∧ d.shown.length ≤ sizeLine ∧ Q (.str d.shown) H) ∨
  ∃ a kvs, vs = [.ref a] ∧ H a = some (.dK (kvs.map fun p => (Sum.inr p.1, V.int p.2))) ∧ (dicD kvs).showable = true ∧ (dicD kvs).depth ≤ 64 ∧ (dicD kvs).shown.length ≤ sizeLine ∧ Q (.str (dicD kvs).shown) H
theorem call_repr {X : Cx} (hgd : X.A.guards = some []) (hu : X.A.units + 128 < cLine) : CallR X (.builtin "repr") (rRepr X.K) := by
  intro pins s σ H vs us Q I r h
  rcases h with ⟨x, d, rfl, dp, hs, hd, h64, hz, q⟩ | ⟨a, kvs, rfl, hH, hs, h64, hz, q⟩
  rotate_left
  · cases r with
    | cons rx rt =>
      cases rt
      cases rx
      obtain ⟨_, hsm, vs, hkv, hdo⟩ := dk_of I.hok hH
      have rd : Reads s.heap (.ref a) (dicD kvs) [a] := PyProof.V.reads_dictOf (enc := encK) (fun k key hk => by
        rcases keyIs_shape (show keyIs k key = true from hk) with ⟨i, t, rfl, rfl⟩ | ⟨x, t, rfl, rfl⟩
        · exact .int i t
        · exact .str x t) hdo (pairsRead_ints kvs hkv)
      exact repr_of_reads' rd hs (fun _ hm => by
        rw [List.mem_singleton] at hm
        rw [hm] at hsm
        simp at hsm) hgd (by omega) (fun _ _ e => e) (fun h' u tk hk => ⟨.str _, H, I.kept hk, ⟨_, rfl⟩, q⟩) hz
  cases r with
  | cons rx rt =>
    cases rt
    rename_i u
    cases dp with
    | non =>
      cases rx
      exact P.repr_of_none ⟨.str _, H, I.tok _, ⟨_, rfl⟩, by simpa only [PyData.shown] using q⟩
    | bl b =>
      cases rx
      exact P.repr_of_bool ⟨.str _, H, I.tok _, ⟨_, rfl⟩, by simpa only [PyData.shown] using q⟩
    | int i =>
      obtain ⟨t, rfl⟩ := rx
      exact P.repr_of_int (by simpa [PyData.showable] using hs) ⟨.str _, H, I.tok _, ⟨_, rfl⟩, by simpa only [PyData.shown] using q⟩
    | str y =>
      obtain ⟨t, rfl⟩ := rx
      simp only [PyData.shown] at q hz
      exact P.repr_of_str ⟨.str _, H, I.tok _, ⟨_, rfl⟩, q⟩ hz
    | lst hq ha =>
      cases rx
      obtain ⟨as, rd⟩ := Dp.reads I _ _ _ (.lst hq ha) rfl
      exact repr_of_reads' rd hs (PyData.noDict_hsm hd) hgd (by omega) (fun _ _ e => e) (fun h' u tk hk => ⟨.str _, H, I.kept hk, ⟨_, rfl⟩, q⟩) hz
    | tup hq ha =>
      cases rx
      obtain ⟨as, rd⟩ := Dp.reads I _ _ _ (.tup hq ha) rfl
      exact repr_of_reads' rd hs (PyData.noDict_hsm hd) hgd (by omega) (fun _ _ e => e) (fun h' u tk hk => ⟨.str _, H, I.kept hk, ⟨_, rfl⟩, q⟩) hz
def reprP (a : PV) : Option PV := match a with
  | .dic kvs => if ((dicD kvs).showable = true ∧ (dicD kvs).depth ≤ 64) ∧ (dicD kvs).shown.length ≤ sizeLine then some (.str (dicD kvs).shown) else none
  | a => match a.toD with
  | some d => if (d.showable = true ∧ d.hasDict = false) ∧ d.depth ≤ 64 ∧ d.shown.length ≤ sizeLine then some (.str d.shown) else none
  | none => none
theorem fn_repr {K : PySem.W.Frag} : Fn1 (rRepr K) K (fun a => lft (reprP a)) := by
  intro C W s σ H v a Q at' ra p
  obtain ⟨d, e, q⟩ := p.lft'
  have q0 := q W H (Vw.Le.refl W) at'
  unfold reprP at e
  split at e
  · rename_i kvs
    split at e
    · rename_i hc
      cases e
      cases ra with
      | rep h => cases h with
        | dic hH => exact .inr ⟨_, kvs, rfl, at'.ok.sub _ _ hH, hc.1.1, hc.1.2, hc.2, q0 _ (.str _)⟩
    · cases e
  · split at e
    · rename_i x hx
      split at e
      · rename_i hc
        cases e
        exact .inl ⟨v, x, rfl, ra.dp at'.ok.sub hx, hc.1.1, hc.1.2, hc.2.1, hc.2.2, q0 _ (.str _)⟩
      · cases e
    · cases e
end Dn
/-! Den6: sorted. -/
namespace Dn
open PySem L2 PySem.Spec PyProof.Rows
/-! ### texts in order -/
def leS (x y : Str) : Bool := !decide (y.cps.toList < x.cps.toList)
def sortS (xs : List Str) : List Str := xs.mergeSort leS
theorem str_ext {x y : Str} (h : x.cps.toList = y.cps.toList) : x = y := by
  cases x; cases y
  congr
  exact Array.toList_inj.mp h
theorem leS_iff {x y : Str} : leS x y = true ↔ x.cps.toList ≤ y.cps.toList := by
  unfold leS
  rw [Bool.not_eq_true', decide_eq_false_iff_not]
  exact List.not_lt
theorem leS_trans (x y z : Str) (h : leS x y = true) (k : leS y z = true) : leS x z = true := leS_iff.mpr (List.le_trans (leS_iff.mp h) (leS_iff.mp k))
theorem leS_total (x y : Str) : (leS x y || leS y x) = true := by
  rcases List.le_total x.cps.toList y.cps.toList with h | h
  · rw [leS_iff.mpr h]; rfl
  · rw [leS_iff.mpr h, Bool.or_true]
theorem leS_anti {x y : Str} (h : leS x y = true) (k : leS y x = true) : x = y := str_ext (List.le_antisymm (leS_iff.mp h) (leS_iff.mp k))
theorem rising_pw : ∀ (r : List Str) (p : Str), risingS p r = true → (p :: r).Pairwise (fun a b => leS a b = true)
  | [], p, _ => List.pairwise_singleton _ _
  | x :: r, p, h => by
    unfold risingS at h
    rw [Bool.and_eq_true, ltCps_eq] at h
    have ih := rising_pw r x h.2
    refine List.pairwise_cons.mpr ⟨fun y hy => ?_, ih⟩
    rcases List.mem_cons.mp hy with e | hy
    · subst e; exact h.1
    · exact leS_trans _ _ _ h.1 ((List.pairwise_cons.mp ih).1 y hy)
theorem sortS_of {xs ys : List Str} (hp : ys.Perm xs) (hs : sortedS ys = true) : ys = sortS xs := by
  have h1 : ys.Pairwise (fun a b => leS a b = true) := by
    cases ys with
    | nil => exact .nil
    | cons y r => exact rising_pw r y hs
  have h2 : (sortS xs).Pairwise (fun a b => leS a b = true) := List.pairwise_mergeSort leS_trans leS_total xs
  exact List.Perm.eq_of_pairwise (fun x y _ _ a b => leS_anti a b) h1 h2 (hp.trans (List.mergeSort_perm xs leS).symm)
theorem sortS_perm (xs : List Str) : (sortS xs).Perm xs := List.mergeSort_perm xs leS
theorem sortS_length (xs : List Str) : (sortS xs).length = xs.length := (sortS_perm xs).length_eq
/-! ### a tuple collected -/
section
variable {prog : Program} {w : World} {A : Around} {E : Value → Shared → Prop} {s : Shared}
theorem collect_tup {l : Addr} {vs : List Value} {Q : List Value → Shared → Prop} (hl : IsTup s.heap l vs.toArray)
    (h : Q vs { s with heap := (s.heap.push (seqObj "list" #[] 0)).update s.heap.objs.size (Obj.mapSeq (· ++ vs.toArray)) }) (hsz : vs.length ≤ sizeLine) :
    wpAny (model prog w) A (collect (.ref l)) Q E s := by
  obtain ⟨o, ho, hc, n, hd⟩ := id hl
  unfold collect
  refine wpAny_bind (wpAny_runValue (codeAny_builtin entry_proto_collect' ?_))
  show wpAny _ _ (do again (.builtin "list.__iadd__" ⟨[← newList [], .ref l], []⟩)) _ _ s
  refine wpAny_bind (wpAny_newList (wpAny_pure ⟨Code.quiet_builtin _ (by decide +kernel), codeAny_builtin entry_list_iadd' ?_⟩))
  show wpAny _ _ (Builtin.List.listExtendWith (.ref s.heap.objs.size) (.ref l) (.ref s.heap.objs.size)) _ _ { s with heap := s.heap.push (seqObj "list" #[] 0) }
  unfold Builtin.List.listExtendWith
  have ho' : (s.heap.push (seqObj "list" #[] 0)).get? l = some o := Heap.get?_push_of_some _ ho
  refine wpAny_bind (wpAny_typeOf (T := "tuple") ⟨o, ho', hc⟩ ?_)
  have ht : (Value.type "tuple" == Value.type "tuple") = true := by rfl
  rw [if_pos (by rw [ht]; simp)]
  refine wpAny_bind (listItems_at ho' hd ?_)
  refine wpAny_bind (listItems_at (xs := #[]) (n := 0) (Heap.get?_push_size _ rfl) rfl ?_)
  rw [if_neg (by simp)]
  refine wpAny_bind (listUpdate_at (xs := #[]) (n := 0) (Heap.get?_push_size _ rfl) rfl ?_ (Nat.zero_le _) (by show (#[] ++ vs.toArray).size ≤ sizeLine + 1; simp only [Array.size_append, List.size_toArray, List.length_nil]; omega))
  refine wpAny_pure ?_
  show wpAny (model prog w) A (do
      let o ← load s.heap.objs.size
      match o.data with
      | .seq xs _ => pure xs.toList
      | _ => unsupported "internal:collect") Q E { s with heap := (s.heap.push (seqObj "list" #[] 0)).update s.heap.objs.size (Obj.mapSeq (· ++ vs.toArray)) }
  refine wpAny_bind (wpAny_load (get?_update_seq (Heap.get?_push_size _ rfl) _) ?_)
  show wpAny _ _ (pure ((#[] : Array Value) ++ vs.toArray).toList) Q E _
  rw [show ((#[] : Array Value) ++ vs.toArray).toList = vs by simp]
  exact wpAny_pure h
theorem sorted_strsT {l : Addr} {vs : List Value} {ss : List Str} {Q : Value → Shared → Prop} (hl : IsTup s.heap l vs.toArray) (hS : StrsAre vs ss) (hL : vs.length ≤ sizeLine)
    (h : ∀ (out : Array Value) (ss' : List Str), StrsAre out.toList ss' → ss'.Perm ss → sortedS ss' = true → Q (.ref (s.heap.objs.size + 1)) { s with heap := sortedAll s.heap vs out }) :
    wpAny (model prog w) A (call (.builtin "sorted") [.ref l]) Q E s := by
  refine Calls.call_function_entry kind_sorted plain_sorted entry_sorted (args_sorted1 _) ?_
  unfold Builtin.«sorted»
  refine wpAny_bind (m := checkCount "sorted" 1 1 _) (wpAny_pure ?_)
  refine wpAny_bind (collect_tup hl ?_ hL)
  refine wpAny_bind (wpAny_newList ?_ hL)
  have hsz : ((s.heap.push (seqObj "list" #[] 0)).update s.heap.objs.size (Obj.mapSeq (· ++ vs.toArray))).objs.size = s.heap.objs.size + 1 := by
    rw [Heap.size_update, size_push']
  have hoL : (((s.heap.push (seqObj "list" #[] 0)).update s.heap.objs.size (Obj.mapSeq (· ++ vs.toArray))).push (seqObj "list" vs.toArray 0)).get? (s.heap.objs.size + 1) = some (seqObj "list" vs.toArray 0) := by
    rw [← hsz]; exact Heap.get?_push_size _ rfl
  show wpAny _ _ _ _ _ { s with heap := ((s.heap.push (seqObj "list" #[] 0)).update s.heap.objs.size (Obj.mapSeq (· ++ vs.toArray))).push (seqObj "list" vs.toArray 0) }
  rw [hsz]
  refine wpAny_bind (wpAny_holding (wpAny_call_entry slot_list_sort ⟨_, hoL, rfl⟩ entry_list_sort (list_sort_treeKAny strKind_oneLt hoL hS.keysOf (fun v₁ v₂ rest e => keyKind_strs (by rw [← e]; exact hS)) hL fun st' a1 a2 => ⟨_, rfl, ?_⟩) (args_list_sort _)))
  obtain ⟨ss', h1, h2, h3⟩ := sorted_out_str hS a1 a2
  exact wpAny_pure ⟨_, rfl, h _ ss' h1 h2 h3⟩
end
def rSortU (K : PySem.W.Frag) : List V → Hp → VK → Prop := fun vs H Q => ∃ (a : Addr) (xs : List Str), vs = [V.ref a] ∧ (SqL K H a (xs.map V.str) ∨ SqT K H a (xs.map V.str)) ∧
  ∀ (p : Addr), H p = none → Q (.ref p) (upd H p (.lst ((sortS xs).map V.str)))
theorem cr_sortU {X : Cx} : CallR X (.builtin "sorted") (rSortU X.K) := by
  intro pins s σ H vs us Q I r h
  obtain ⟨a, xs, rfl, hs, q⟩ := h
  rw [Vals.ref1 r]
  have fin : ∀ (its : List Value), Vals (xs.map V.str) its → xs.length ≤ sizeLine → ∀ (out : Array Value) (ss' : List Str), StrsAre out.toList ss' → ss'.Perm xs → sortedS ss' = true →
      EP X pins σ Q (.ref (s.heap.objs.size + 1)) { s with heap := sortedAll s.heap its out } := fun its rv hz out ys h1 h2 h3 => by
    obtain ⟨ep, he'⟩ := sortedAll_at s.heap its out
    have e := sortS_of h2 h3
    subst e
    have hlen : ((sortS xs).map V.str).length ≤ sizeLine := by rw [List.length_map, sortS_length]; exact hz
    exact ⟨.ref _, upd H (s.heap.objs.size + 1) (.lst ((sortS xs).map V.str)), I.laid (t' := s.toks) (fun _ _ => sortedAll_old) (Nat.le_succ _) ⟨hlen, out.toList, ep, vals_of_strs h1, he'⟩, rfl, q _ (I.hok.fresh (Nat.le_succ _))⟩
  rcases hs with hs | hs
  · obtain ⟨its, rv, hl, hz⟩ := I.list hs
    have hlen0 := rv.length
    rw [List.length_map] at hlen0 hz
    exact sorted_strsAny hl.isList rv.strs (by omega) (fin its rv hz)
  · obtain ⟨its, rv, hl, hz⟩ := I.tuple hs
    have hlen0 := rv.length
    rw [List.length_map] at hlen0 hz
    exact sorted_strsT hl rv.strs (by omega) (fin its rv hz)
def sortP : PV → Option (List PV)
  | .lst xs => (strsOf xs).map fun ss => (sortS ss).map .str
  | .tup xs => (strsOf xs).map fun ss => (sortS ss).map .str
  | _ => none
theorem fn_sort {K : PySem.W.Frag} : Fn1O (rSortU K) K (fun a => lft (sortP a)) := by
  intro C W s σ H v a Q at' ra p
  obtain ⟨d, e, q⟩ := p.lft'
  have q0 := q W H (Vw.Le.refl W) at'
  unfold sortP at e
  split at e
  · obtain ⟨ss, e1, rfl⟩ := Option.map_eq_some_iff.mp e
    obtain ⟨x, vs, rfl, hx, rx⟩ := ra.lst at'.ok.sub
    have ew := strsOf_ok e1
    subst ew
    have ew := rx.of_strs
    subst ew
    exact ⟨x, ss, rfl, .inl (SqL.of hx), fun l hl => q0 l _ hl (Reps.strs _)⟩
  · obtain ⟨ss, e1, rfl⟩ := Option.map_eq_some_iff.mp e
    obtain ⟨x, vs, rfl, hx, hx2, rx⟩ := ra.tup at'.ok.sub
    have ew := strsOf_ok e1
    subst ew
    have ew := rx.of_strs
    subst ew
    exact ⟨x, ss, rfl, .inr hx2, fun l hl => q0 l _ hl (Reps.strs _)⟩
  · cases e
/-! ### by a key: stable -/
/-! ### sorted(xs, key=len), the items tuples -/
end Dn
/-! Den7: the rules in short, one for each form of Python. -/
namespace Dn
open PySem L2 PySem.Spec PyProof.Rows
theorem bo_len : bootBuiltins "len" = some (.builtin "len") := by decide +kernel
theorem bo_abs : bootBuiltins "abs" = some (.builtin "abs") := by decide +kernel
theorem bo_all : bootBuiltins "all" = some (.builtin "all") := by decide +kernel
theorem bo_repr : bootBuiltins "repr" = some (.builtin "repr") := by decide +kernel
theorem bo_sorted : bootBuiltins "sorted" = some (.builtin "sorted") := by decide +kernel
theorem bo_int : bootBuiltins "int" = some (.type "int") := by decide +kernel
theorem bo_list : bootBuiltins "list" = some (.type "list") := by decide +kernel
theorem bo_tuple : bootBuiltins "tuple" = some (.type "tuple") := by decide +kernel
section
variable {Y : WX} {X : Cx} {a b c e o : Expr} {es : List Expr} {ca cb cd ce : M PV} {ta tb tc : M Bool} {pos p px : Pos} {i j k : Nat}
/-! ### names, constants -/
theorem xv (i : Nat) {x : Str} {pos : Pos} (hN : X.N[i]? = some x := by rfl) (hv : Vis X.env.scope x := by first | exact Or.inl rfl | exact Or.inr (Or.inl rfl) | exact Or.inr (Or.inr rfl)) (hd : (x == ("__debug__" : Str)) = false := by decide)
    (hcd : (x == ("__classdict__" : Str)) = false := by decide) : PE X (.Name x pos) (den X.K Y (var i)) := pe_imp (pe_var hN hv hd hcd) fun _ _ _ => den_var
theorem xint {n : Int} {j pos} : PE X (.Constant (.int n) j pos) (den X.K Y (ret (.int n))) := pe_imp pe_int fun _ _ _ h => den_ret h fun _ => .int n
theorem xstr {x : Str} {j pos} : PE X (.Constant (.str x) j pos) (den X.K Y (ret (.str x))) := pe_imp pe_str fun _ _ _ h => den_ret h fun _ => .str x
theorem xbl {b : Bool} {j pos} : PE X (.Constant (.bool b) j pos) (den X.K Y (ret (.bl b))) := pe_imp pe_bl fun _ _ _ h => den_ret h fun _ => .bl b
theorem xnon {j pos} : PE X (.Constant .none j pos) (den X.K Y (ret .non)) := pe_imp pe_non fun _ _ _ h => den_ret h fun _ => .non
/-! ### operators -/
abbrev opAdd (a b : PV) : M PV := lft (addP a b)
abbrev opSub (a b : PV) : M PV := lft (subP a b)
abbrev opMul (a b : PV) : M PV := lft (mulP a b)
abbrev opDiv (a b : PV) : M PV := lft (fdivP a b)
abbrev opMod (a b : PV) : M PV := lft (modP a b)
abbrev opPow (a b : PV) : M PV := lft (powP a b)
theorem xadd (ha : PE X a (den X.K Y ca)) (hb : PE X b (den X.K Y cb)) : PE X (.BinOp a .Add b pos) (den X.K Y (bin ca cb opAdd)) := pe_imp (pe_op op_addU ha hb) fun _ _ _ => den_bin bin_add
theorem xsub (ha : PE X a (den X.K Y ca)) (hb : PE X b (den X.K Y cb)) : PE X (.BinOp a .Sub b pos) (den X.K Y (bin ca cb opSub)) := pe_imp (pe_op op_sub ha hb) fun _ _ _ => den_bin bin_sub
theorem xmul (ha : PE X a (den X.K Y ca)) (hb : PE X b (den X.K Y cb)) : PE X (.BinOp a .Mult b pos) (den X.K Y (bin ca cb opMul)) := pe_imp (pe_op (op_or2 op_mulW op_rep) ha hb) fun _ _ _ => den_bin bin_mul
theorem xfdiv (ha : PE X a (den X.K Y ca)) (hb : PE X b (den X.K Y cb)) : PE X (.BinOp a .FloorDiv b pos) (den X.K Y (bin ca cb opDiv)) := pe_imp (pe_op op_fdivW ha hb) fun _ _ _ => den_bin bin_fdiv
theorem xmod (ha : PE X a (den X.K Y ca)) (hb : PE X b (den X.K Y cb)) : PE X (.BinOp a .Mod b pos) (den X.K Y (bin ca cb opMod)) := pe_imp (pe_op op_mod ha hb) fun _ _ _ => den_bin bin_mod
theorem xpow (ha : PE X a (den X.K Y ca)) (hb : PE X b (den X.K Y cb)) : PE X (.BinOp a .Pow b pos) (den X.K Y (bin ca cb opPow)) := pe_imp (pe_op op_pow ha hb) fun _ _ _ => den_bin bin_pow
/-! ### comparisons: by the rule of the operator -/
structure CmpOk (X : Cx) (op : CmpOp) (f : PV → PV → M PV) : Prop where
  ok : ∃ r, OpR X (compareOp op) r ∧ Bin r X.K f
abbrev opLt (a b : PV) : M PV := lft (ordP (fun i j => decide (i < j)) a b)
abbrev opLe (a b : PV) : M PV := lft (ordP (fun i j => decide (i ≤ j)) a b)
abbrev opGt (a b : PV) : M PV := lft (ordP (fun i j => decide (j < i)) a b)
abbrev opGe (a b : PV) : M PV := lft (ordP (fun i j => decide (j ≤ i)) a b)
abbrev opEq (a b : PV) : M PV := lft (eqP false a b)
abbrev opNe (a b : PV) : M PV := lft (eqP true a b)
abbrev opIn (a b : PV) : M PV := lft (inP false a b)
theorem k_lt : CmpOk X .Lt opLt := ⟨_, op_lt, bin_ord⟩
theorem k_le : CmpOk X .LtE opLe := ⟨_, op_le, bin_ord⟩
theorem k_gt : CmpOk X .Gt opGt := ⟨_, op_gt, bin_ord⟩
theorem k_ge : CmpOk X .GtE opGe := ⟨_, op_ge, bin_ord⟩
theorem k_eq (hu : X.A.units + 128 < cLine) : CmpOk X .Eq opEq := ⟨_, op_or2 op_eq (op_eqD (by omega)), bin_eq⟩
theorem k_ne (hu : X.A.units + 128 < cLine) : CmpOk X .NotEq opNe := ⟨_, op_or2 op_ne (op_neD (by omega)), bin_ne⟩
theorem k_in (hu : X.A.units + 128 < cLine) : CmpOk X .In opIn := ⟨_, op_or2 (op_or2 op_in_seq (op_inD (by omega))) op_in_sign, bin_in⟩
theorem xcmp {op : CmpOp} {f : PV → PV → M PV} (h : CmpOk X op f) (ha : PE X a (den X.K Y ca)) (hb : PE X b (den X.K Y cb)) (hm : behindInMarks op b = false := by first | exact nomark _ | rfl) : PE X (.Compare a [op] [b] pos) (den X.K Y (bin ca cb f)) := by
  obtain ⟨r, h1, h2⟩ := h.ok
  exact pe_imp (pe_cmpR h1 ha hb hm) fun _ _ _ => den_bin h2
/-! ### tests -/
theorem tcmp {op : CmpOp} {f : PV → PV → M PV} (h : CmpOk X op f) (ha : PE X a (den X.K Y ca)) (hb : PE X b (den X.K Y cb)) (hm : behindInMarks op b = false := by first | exact nomark _ | rfl) : PT X (.Compare a [op] [b] pos) (denT X.K Y (asB (bin ca cb f))) := by
  obtain ⟨r, h1, h2⟩ := h.ok
  exact pt_imp (pt_cmpR h1 ha hb hm) fun _ _ _ q => den_bin h2 (den_asB q)
theorem tcmpL {op : CmpOp} {f : PV → PV → M PV} (h : CmpOk X op f) (i : Nat) {x : Str} (hb : PE X b (den X.K Y cb)) (hm : behindInMarks op b = false := by first | exact nomark _ | rfl) (hN : X.N[i]? = some x := by rfl)
    (hv : Vis X.env.scope x := by first | exact Or.inl rfl | exact Or.inr (Or.inl rfl) | exact Or.inr (Or.inr rfl)) (hd : (x == ("__debug__" : Str)) = false := by decide) (hcd : (x == ("__classdict__" : Str)) = false := by decide) :
    PT X (.Compare (.Name x px) [op] [b] pos) (denT X.K Y (asB (binL i cb f))) := by
  obtain ⟨r, h1, h2⟩ := h.ok
  exact pt_imp (pt_cmpR h1 (pe_var hN hv hd hcd) hb hm) fun _ _ _ q => den_binL h2 (den_asB q)
theorem tisN (ha : PE X a (den X.K Y ca)) {j p2} : PT X (.Compare a [.Is] [.Constant .none j p2] pos) (denT X.K Y (asB (isN false ca))) := pt_imp (pt_cmp (pc_isN ha) rfl) fun _ _ _ q => den_isN (den_asB q)
theorem tnotN (ha : PE X a (den X.K Y ca)) {j p2} : PT X (.Compare a [.IsNot] [.Constant .none j p2] pos) (denT X.K Y (asB (isN true ca))) := pt_imp (pt_cmp (pc_notN ha) rfl) fun _ _ _ q => den_notN (den_asB q)
theorem tval (ha : PE X a (den X.K Y ca)) (he : ∀ whole, isTrue a X.env whole = (do let v ← whole; standAt a.pos; holding [v] (truthy v)) := by intro _; rfl) : PT X a (denT X.K Y (asB ca)) := pt_imp (pt_val ha he) fun _ _ _ q => den_asB q
theorem wand (ha : PT X a (denT X.K Y ta)) (hb : PW X (.BoolOp .And (b :: es) pos) (denT X.K Y tb)) : PW X (.BoolOp .And (a :: b :: es) pos) (denT X.K Y (andT ta tb)) := pw_imp (pw_and ha hb) fun _ _ _ => den_and
theorem wor (ha : PT X a (denT X.K Y ta)) (hb : PW X (.BoolOp .Or (b :: es) pos) (denT X.K Y tb)) : PW X (.BoolOp .Or (a :: b :: es) pos) (denT X.K Y (orT ta tb)) := pw_imp (pw_or ha hb) fun _ _ _ => den_or
theorem tnot (ha : PT X a (denT X.K Y ta)) : PT X (.UnaryOp .Not a pos) (denT X.K Y (notT ta)) := pt_imp (pt_not ha) fun _ _ _ => den_not
theorem xand (ha : PE X a (den X.K Y ca)) (hb : PE X (.BoolOp .And (b :: es) pos) (den X.K Y cb)) : PE X (.BoolOp .And (a :: b :: es) pos) (den X.K Y (andV ca cb)) := pe_imp (pe_and ha hb) fun _ _ _ => den_andV
theorem xnot (ha : PE X a (den X.K Y ca)) : PE X (.UnaryOp .Not a pos) (den X.K Y (notV ca)) := pe_imp (pe_not ha) fun _ _ _ => den_notV
theorem xif (hc : PT X c (denT X.K Y tc)) (ha : PE X a (den X.K Y ca)) (hb : PE X b (den X.K Y cb)) : PE X (.IfExp c a b pos) (den X.K Y (iteT tc ca cb)) := pe_imp (pe_ifExp hc ha hb) fun _ _ _ => den_ite
/-! ### arguments, displays -/
theorem anil : PA X [] (denA X.K Y argN) := pa_imp pa_nil fun _ _ _ => den_argN
theorem acons {r : M (List PV)} (ha : PE X e (den X.K Y ce)) (hr : PA X es (denA X.K Y r)) (hs : starEach (e :: es) X.env = (false, eval e X.env) :: starEach es X.env := by rfl) : PA X (e :: es) (denA X.K Y (argC ce r)) := pa_imp (pa_cons ha hr hs) fun _ _ _ => den_argC
theorem xtup {cs : M (List PV)} {n} (h : PA X es (denA X.K Y cs)) : PE X (.Tuple es n pos) (den X.K Y (tupM cs)) := pe_imp (pe_tup h) fun _ _ _ => den_tup
theorem olst {cs : M (List PV)} (h : PA X es (denA X.K Y cs)) : PE X (.List es pos) (denO X.K Y (fits cs)) := pe_imp (pe_lst h) fun _ _ _ => denO_lst
/-- a new list, frozen at once -/
theorem xo {cs : M (List PV)} (h : PE X e (denO X.K Y cs)) : PE X e (den X.K Y (lstM cs)) := pe_imp h fun _ _ _ => denO_den
/-! ### subscripts, slices -/
abbrev opIx (a b : PV) : M PV := lft (ixP a b)
theorem xix (ha : PE X a (den X.K Y ca)) (hb : PE X b (den X.K Y cb)) (hs : PlainIx b := by intro _ _; rfl) : PE X (.Subscript a b pos) (den X.K Y (bin ca cb opIx)) := pe_imp (pe_ix ix_seq ha hb hs) fun _ _ _ => den_bin bin_ix
theorem xixL (i : Nat) {x : Str} (hb : PE X b (den X.K Y cb)) (hs : PlainIx b := by intro _ _; rfl) (hN : X.N[i]? = some x := by rfl)
    (hv : Vis X.env.scope x := by first | exact Or.inl rfl | exact Or.inr (Or.inl rfl) | exact Or.inr (Or.inr rfl)) (hd : (x == ("__debug__" : Str)) = false := by decide) (hcd : (x == ("__classdict__" : Str)) = false := by decide) :
    PE X (.Subscript (.Name x px) b pos) (den X.K Y (binL i cb opIx)) := pe_imp (pe_ix ix_seq (pe_var hN hv hd hcd) hb hs) fun _ _ _ => den_binL bin_ix
theorem qN : PO X none (denP X.K Y parN) := ⟨fun pins s σ H Q I h => po_none.run pins s σ H Q I (den_parN h)⟩
theorem qS (h : PE X e (den X.K Y ce)) : PO X (some e) (denP X.K Y (parS ce)) := ⟨fun pins s σ H Q I q => (po_some h).run pins s σ H Q I (den_parS q)⟩
theorem xsl {lo hi : Option Expr} {cl ch : M (Option Int)} {p2} (h : PE X e (den X.K Y ce)) (hl : PO X lo (denP X.K Y cl)) (hh : PO X hi (denP X.K Y ch)) : PE X (.Subscript e (.Slice lo hi none p2) pos) (den X.K Y (slM ce cl ch)) := pe_imp (pe_slice sl_u h hl hh) fun _ _ _ => den_sl
theorem xhget (hu : X.A.units + 128 < cLine) (ha : PE X a (den X.K Y ca)) (hb : PE X b (den X.K Y cb)) (hs : NoSl b := by intro _ _; rfl) : PE X (.Subscript a b pos) (den X.K Y (bin ca cb hgetP)) := pe_imp (pe_dget (by omega) ha hb hs) fun _ _ _ => den_hget
/-! ### built-ins -/
theorem xb {id : String} {x : Str} {r : List V → Hp → VK → Prop} {f : PV → M PV} (hc : CallR X (.builtin id) r) (hf : Fn1 r X.K f) (hv : bootBuiltins x = some (.builtin id)) (hm : X.mg x = none) (ha : PE X e (den X.K Y ce)) (hg : Gl X x := by rfl) (hn : x ≠ "__name__" := by decide) (hdb : (x == ("__debug__" : Str)) = false := by decide)
    (he : starEach [e] X.env = (false, eval e X.env) :: starEach [] X.env := by rfl) (hpl : (backTo pos (starEach [] X.env)).any (·.1) = false := by rfl) : PE X (.Call (.Name x p) [e] [] pos) (den X.K Y (bnd ce f)) :=
  pe_imp (pe_callB hc hg hm hv (pa_cons ha pa_nil he) hn hdb he hpl) fun _ _ _ => den_fn1 hf
theorem xbL (i : Nat) {y : Str} {id : String} {x : Str} {r : List V → Hp → VK → Prop} {f : PV → M PV} (hc : CallR X (.builtin id) r) (hf : Fn1 r X.K f) (hv : bootBuiltins x = some (.builtin id)) (hm : X.mg x = none) (hg : Gl X x := by rfl) (hn : x ≠ "__name__" := by decide) (hdb : (x == ("__debug__" : Str)) = false := by decide)
    (hN : X.N[i]? = some y := by rfl) (hvi : Vis X.env.scope y := by first | exact Or.inl rfl | exact Or.inr (Or.inl rfl) | exact Or.inr (Or.inr rfl)) (hd : (y == ("__debug__" : Str)) = false := by decide) (hcd : (y == ("__classdict__" : Str)) = false := by decide)
    (he : starEach [.Name y px] X.env = (false, eval (.Name y px) X.env) :: starEach [] X.env := by rfl) (hpl : (backTo pos (starEach [] X.env)).any (·.1) = false := by rfl) : PE X (.Call (.Name x p) [.Name y px] [] pos) (den X.K Y (bnd (brw i) f)) :=
  pe_imp (pe_callB hc hg hm hv (pa_cons (pe_var hN hvi hd hcd) pa_nil he) hn hdb he hpl) fun _ _ _ => den_fn1B hf
theorem xt {T : String} {x : Str} {r : List V → Hp → VK → Prop} {f : PV → M PV} (hc : CallR X (.type T) r) (hf : Fn1 r X.K f) (hv : bootBuiltins x = some (.type T)) (hm : X.mg x = none) (ha : PE X e (den X.K Y ce)) (hg : Gl X x := by rfl) (hn : x ≠ "__name__" := by decide) (hdb : (x == ("__debug__" : Str)) = false := by decide)
    (he : starEach [e] X.env = (false, eval e X.env) :: starEach [] X.env := by rfl) (hpl : (backTo pos (starEach [] X.env)).any (·.1) = false := by rfl) : PE X (.Call (.Name x p) [e] [] pos) (den X.K Y (bnd ce f)) :=
  pe_imp (pe_callTy hc hg hm hv (pa_cons ha pa_nil he) hn hdb he hpl) fun _ _ _ => den_fn1 hf
theorem ob {id : String} {x : Str} {r : List V → Hp → VK → Prop} {f : PV → M (List PV)} (hc : CallR X (.builtin id) r) (hf : Fn1O r X.K f) (hv : bootBuiltins x = some (.builtin id)) (hm : X.mg x = none) (ha : PE X e (den X.K Y ce)) (hg : Gl X x := by rfl) (hn : x ≠ "__name__" := by decide) (hdb : (x == ("__debug__" : Str)) = false := by decide)
    (he : starEach [e] X.env = (false, eval e X.env) :: starEach [] X.env := by rfl) (hpl : (backTo pos (starEach [] X.env)).any (·.1) = false := by rfl) : PE X (.Call (.Name x p) [e] [] pos) (denO X.K Y (bnd ce f)) :=
  pe_imp (pe_callB hc hg hm hv (pa_cons ha pa_nil he) hn hdb he hpl) fun _ _ _ => denO_fn1 hf
theorem ot {T : String} {x : Str} {r : List V → Hp → VK → Prop} {f : PV → M (List PV)} (hc : CallR X (.type T) r) (hf : Fn1O r X.K f) (hv : bootBuiltins x = some (.type T)) (hm : X.mg x = none) (ha : PE X e (den X.K Y ce)) (hg : Gl X x := by rfl) (hn : x ≠ "__name__" := by decide) (hdb : (x == ("__debug__" : Str)) = false := by decide)
    (he : starEach [e] X.env = (false, eval e X.env) :: starEach [] X.env := by rfl) (hpl : (backTo pos (starEach [] X.env)).any (·.1) = false := by rfl) : PE X (.Call (.Name x p) [e] [] pos) (denO X.K Y (bnd ce f)) :=
  pe_imp (pe_callTy hc hg hm hv (pa_cons ha pa_nil he) hn hdb he hpl) fun _ _ _ => denO_fn1 hf
abbrev fLen (a : PV) : M PV := lft (lenP a)
abbrev fAbs (a : PV) : M PV := lft (absP a)
abbrev fInt (a : PV) : M PV := lft (intP a)
abbrev fAll (a : PV) : M PV := lft (allP a)
abbrev fRepr (a : PV) : M PV := lft (reprP a)
abbrev fTuple (a : PV) : M PV := lft (tupleP a)
abbrev fList (a : PV) : M (List PV) := lft (listP a)
abbrev fSort (a : PV) : M (List PV) := lft (sortP a)
theorem xlen (hm : X.mg "len" = none) (ha : PE X e (den X.K Y ce)) (hg : Gl X "len" := by rfl) (he : starEach [e] X.env = (false, eval e X.env) :: starEach [] X.env := by rfl) : PE X (.Call (.Name "len" p) [e] [] pos) (den X.K Y (bnd ce fLen)) := xb call_len fn_len bo_len hm ha hg (he := he)
theorem xlenL (i : Nat) {y : Str} (hm : X.mg "len" = none) (hg : Gl X "len" := by rfl) (hN : X.N[i]? = some y := by rfl) (hvi : Vis X.env.scope y := by first | exact Or.inl rfl | exact Or.inr (Or.inl rfl) | exact Or.inr (Or.inr rfl)) (hd : (y == ("__debug__" : Str)) = false := by decide)
    (hcd : (y == ("__classdict__" : Str)) = false := by decide) (he : starEach [.Name y px] X.env = (false, eval (.Name y px) X.env) :: starEach [] X.env := by rfl) : PE X (.Call (.Name "len" p) [.Name y px] [] pos) (den X.K Y (bnd (brw i) fLen)) :=
  xbL i call_len fn_len bo_len hm hg (hN := hN) (hvi := hvi) (hd := hd) (hcd := hcd) (he := he)
theorem xabs (hm : X.mg "abs" = none) (ha : PE X e (den X.K Y ce)) (hg : Gl X "abs" := by rfl) (he : starEach [e] X.env = (false, eval e X.env) :: starEach [] X.env := by rfl) : PE X (.Call (.Name "abs" p) [e] [] pos) (den X.K Y (bnd ce fAbs)) := xb call_abs fn_abs bo_abs hm ha hg (he := he)
theorem xall (hc : X.calm = true) (hm : X.mg "all" = none) (ha : PE X e (den X.K Y ce)) (hg : Gl X "all" := by rfl) (he : starEach [e] X.env = (false, eval e X.env) :: starEach [] X.env := by rfl) : PE X (.Call (.Name "all" p) [e] [] pos) (den X.K Y (bnd ce fAll)) := xb (cr_all hc) fn_all bo_all hm ha hg (he := he)
theorem xrepr (hgd : X.A.guards = some []) (hu : X.A.units + 128 < cLine) (hm : X.mg "repr" = none) (ha : PE X e (den X.K Y ce)) (hg : Gl X "repr" := by rfl) (he : starEach [e] X.env = (false, eval e X.env) :: starEach [] X.env := by rfl) : PE X (.Call (.Name "repr" p) [e] [] pos) (den X.K Y (bnd ce fRepr)) := xb (call_repr hgd hu) fn_repr bo_repr hm ha hg (he := he)
theorem xtoint (hm : X.mg "int" = none) (ha : PE X e (den X.K Y ce)) (hg : Gl X "int" := by rfl) (he : starEach [e] X.env = (false, eval e X.env) :: starEach [] X.env := by rfl) : PE X (.Call (.Name "int" p) [e] [] pos) (den X.K Y (bnd ce fInt)) := xt call_int1 fn_int bo_int hm ha hg (he := he)
theorem xtuple (hm : X.mg "tuple" = none) (ha : PE X e (den X.K Y ce)) (hg : Gl X "tuple" := by rfl) (he : starEach [e] X.env = (false, eval e X.env) :: starEach [] X.env := by rfl) : PE X (.Call (.Name "tuple" p) [e] [] pos) (den X.K Y (bnd ce fTuple)) := xt call_tuple_of fn_tuple bo_tuple hm ha hg (he := he)
theorem olist (hm : X.mg "list" = none) (ha : PE X e (den X.K Y ce)) (hg : Gl X "list" := by rfl) (he : starEach [e] X.env = (false, eval e X.env) :: starEach [] X.env := by rfl) : PE X (.Call (.Name "list" p) [e] [] pos) (denO X.K Y (bnd ce fList)) := ot call_list_of fn_list bo_list hm ha hg (he := he)
/-! ### methods -/
theorem xjoin {apos : Pos} (ha : PE X o (den X.K Y ca)) (hb : PE X e (den X.K Y cb)) (hbase : attributeBase o "join" X.env (eval o X.env) = eval o X.env := by rfl) (hline : (apos.endLine == pos.line) = true := by rfl)
    (hs : starEach [e] X.env = [(false, eval e X.env)] := by rfl) :
    PE X (.Call (.Attribute o "join" apos) [e] [] pos) (den X.K Y (joinM ca cb)) := pe_imp (pe_join ha hb hs hbase hline) fun _ _ _ => den_join
end
end Dn
/-! Den8: statements, comprehensions, calls, in short. -/
namespace Dn
open PySem L2 PySem.Spec PyProof.Rows
/-- no exception is wanted -/
abbrev yF : WX := fun _ _ _ _ => False
section
variable {Y : WX} {X : Cx} {a b c e o : Expr} {es : List Expr} {ca cb cd ce : M PV} {ta tb tc : M Bool} {fa fb fc : M Fl} {pos p px : Pos} {i j k : Nat} {st : Stmt} {rest sa sb : List Stmt}
/-! ### blocks -/
theorem bnil : PSs X [] (denS X.K Y skipM) := pss_imp pss_nil fun _ _ _ => den_skip
theorem bone (h : PS X st (denS X.K Y fa)) : PSs X [st] (denS X.K Y fa) := pss_one h
theorem bcons (h : PS X st (denS X.K Y fa)) (r : PSs X rest (denS X.K Y fb)) : PSs X (st :: rest) (denS X.K Y (seqM fa fb)) := pss_imp (pss_cons h r) fun _ _ _ => den_seq
theorem sret (h : PE X e (den X.K Y ce)) : PS X (.Return (some e) pos) (denS X.K Y (retM ce)) := ps_imp (ps_ret h) fun _ _ _ => den_return
theorem sexpr (h : PE X e (den X.K Y ce)) (hs : swapsWith e none pos.line X.env = pure false := by rfl) : PS X (.Expr e pos) (denS X.K Y (dropM ce)) := ps_imp (ps_expr h hs) fun _ _ _ => den_drop
theorem sif (hc : PT X c (denT X.K Y tc)) (ha : PSs X sa (denS X.K Y fa)) (hb : PSs X sb (denS X.K Y fb)) : PS X (.If c sa sb pos) (denS X.K Y (ifM tc fa fb)) := ps_imp (ps_if hc ha hb) fun _ _ _ => den_if
/-! ### stores -/
theorem sset (i : Nat) {x : Str} (nd : X.N.Nodup) (he : PE X e (den X.K Y ce)) (hi : X.N[i]? = some x := by rfl) (hx : Loc X.env.scope x := by first | exact Or.inl rfl | exact Or.inr rfl) (hs : swapsWith e (some (.Name x px)) pos.line X.env = pure false := by rfl)
    (hf : X.fn x = true ∨ X.env.scope.names.lookup x = some .local := by first | exact .inl rfl | exact .inr rfl | assumption) : PS X (.Assign [.Name x px] e pos) (denS X.K Y (asgM i ce)) := ps_imp (ps_set nd hi hx he hs hf) fun _ _ _ => den_asg
theorem sown (i : Nat) {x : Str} {cs : M (List PV)} (nd : X.N.Nodup) (he : PE X e (denO X.K Y cs)) (hi : X.N[i]? = some x := by rfl) (hx : Loc X.env.scope x := by first | exact Or.inl rfl | exact Or.inr rfl) (hs : swapsWith e (some (.Name x px)) pos.line X.env = pure false := by rfl)
    (hf : X.fn x = true ∨ X.env.scope.names.lookup x = some .local := by first | exact .inl rfl | exact .inr rfl | assumption) : PS X (.Assign [.Name x px] e pos) (denS X.K Y (asgO i cs)) := ps_imp (ps_set nd hi hx he hs hf) fun _ _ _ => den_asgO
theorem shput {cd ck cv : M PV} {d key v : Expr} {p2 : Pos} (hu : X.A.units + 128 < cLine) (hd : PE X d (den X.K Y cd)) (hk : PE X key (den X.K Y ck)) (hv : PE X v (den X.K Y cv)) (hs : swapsWith v (some (.Subscript d key p2)) pos.line X.env = pure false := by rfl) :
    PS X (.Assign [.Subscript d key p2] v pos) (denS X.K Y (hputM cd ck cv)) := ps_imp (ps_dput (by omega) hd hk hv hs) fun _ _ _ => den_hput
theorem spar2 (i j : Nat) {x y : Str} {kt k2 : Nat} {py pt pt2 : Pos} (hc : X.calm = true) (nd : X.N.Nodup) (ha : PE X a (den X.K Y ca)) (hb : PE X b (den X.K Y cb)) (hi : X.N[i]? = some x := by rfl) (hj : X.N[j]? = some y := by rfl) (hij : i ≠ j := by decide)
    (hx : X.env.scope.names.lookup x = some .local := by rfl) (hy : X.env.scope.names.lookup y = some .local := by rfl) (hw : swappedStores [.Tuple [.Name x px, .Name y py] kt pt] (.Tuple [a, b] k2 pt2) X.env = pure (some [x, y]) := by rfl)
    (hs : swapsWithSole [.Tuple [.Name x px, .Name y py] kt pt] (.Tuple [a, b] k2 pt2) pos.line X.env = pure false := by rfl) (h1 : starEach [a, b] X.env = (false, eval a X.env) :: starEach [b] X.env := by rfl) (h2 : starEach [b] X.env = (false, eval b X.env) :: starEach [] X.env := by rfl) :
    PS X (.Assign [.Tuple [.Name x px, .Name y py] kt pt] (.Tuple [a, b] k2 pt2) pos) (denS X.K Y (par2 i j ca cb)) := ps_imp (ps_par hc nd hi hj hij hx hy (pa_cons ha (pa_cons hb pa_nil h2) h1) hw hs) fun _ _ _ => den_par2
theorem spar2OO (i j : Nat) {x y : Str} {kt k2 : Nat} {py pt pt2 : Pos} {ca cb : M (List PV)} (hc : X.calm = true) (nd : X.N.Nodup) (ha : PE X a (denO X.K Y ca)) (hb : PE X b (denO X.K Y cb)) (hi : X.N[i]? = some x := by rfl) (hj : X.N[j]? = some y := by rfl) (hij : i ≠ j := by decide)
    (hx : X.env.scope.names.lookup x = some .local := by rfl) (hy : X.env.scope.names.lookup y = some .local := by rfl) (hw : swappedStores [.Tuple [.Name x px, .Name y py] kt pt] (.Tuple [a, b] k2 pt2) X.env = pure (some [x, y]) := by rfl)
    (hs : swapsWithSole [.Tuple [.Name x px, .Name y py] kt pt] (.Tuple [a, b] k2 pt2) pos.line X.env = pure false := by rfl) (h1 : starEach [a, b] X.env = (false, eval a X.env) :: starEach [b] X.env := by rfl) (h2 : starEach [b] X.env = (false, eval b X.env) :: starEach [] X.env := by rfl) :
    PS X (.Assign [.Tuple [.Name x px, .Name y py] kt pt] (.Tuple [a, b] k2 pt2) pos) (denS X.K Y (par2OO i j ca cb)) := ps_imp (ps_par hc nd hi hj hij hx hy (pa_cons ha (pa_cons hb pa_nil h2) h1) hw hs) fun _ _ _ => den_par2OO
theorem spar3 (i j l : Nat) {x y z : Str} {kt k2 : Nat} {py pz pt pt2 : Pos} (hc : X.calm = true) (nd : X.N.Nodup) (ha : PE X a (den X.K Y ca)) (hb : PE X b (den X.K Y cb)) (hcc : PE X c (den X.K Y cd)) (hi : X.N[i]? = some x := by rfl) (hj : X.N[j]? = some y := by rfl) (hl : X.N[l]? = some z := by rfl)
    (hij : i ≠ j := by decide) (hil : i ≠ l := by decide) (hjl : j ≠ l := by decide) (hx : X.env.scope.names.lookup x = some .local := by rfl) (hy : X.env.scope.names.lookup y = some .local := by rfl) (hz : X.env.scope.names.lookup z = some .local := by rfl)
    (hw : swappedStores [.Tuple [.Name x px, .Name y py, .Name z pz] kt pt] (.Tuple [a, b, c] k2 pt2) X.env = pure (some [x, y, z]) := by rfl) (hs : swapsWithSole [.Tuple [.Name x px, .Name y py, .Name z pz] kt pt] (.Tuple [a, b, c] k2 pt2) pos.line X.env = pure false := by rfl)
    (h1 : starEach [a, b, c] X.env = (false, eval a X.env) :: starEach [b, c] X.env := by rfl) (h2 : starEach [b, c] X.env = (false, eval b X.env) :: starEach [c] X.env := by rfl) (h3 : starEach [c] X.env = (false, eval c X.env) :: starEach [] X.env := by rfl) :
    PS X (.Assign [.Tuple [.Name x px, .Name y py, .Name z pz] kt pt] (.Tuple [a, b, c] k2 pt2) pos) (denS X.K Y (par3 i j l ca cb cd)) := ps_imp (ps_par3 hc nd hi hj hl hij hil hjl hx hy hz (pa_cons ha (pa_cons hb (pa_cons hcc pa_nil h3) h2) h1) hw hs) fun _ _ _ => den_par3
/-! ### what is walked -/
theorem iu {tg : Expr} (h : PE X e (den X.K Y ce)) : PI X tg e (iU X.K (den X.K Y ce)) := pi_u h
theorem irng {tg : Expr} (hm : X.mg "range" = none) (h : PE X e (den X.K Y ce)) (hg : Gl X "range" := by rfl) (hs : starEach [e] X.env = [(false, eval e X.env)] := by rfl) : PI X tg (.Call (.Name "range" p) [e] [] pos) (iRng1 (tCons (den X.K Y ce) tNil)) := pi_range1 hg hm (pa_cons h pa_nil hs) hs
theorem sfor (i : Nat) {x : Str} {wi : TI} {cs : M (List PV)} {iter : Expr} (hc : X.calm = true) (nd : X.N.Nodup) (hp : PassesOwn (model X.prog X.w) X.A X.env X.xe) (hi : PI X (.Name x px) iter wi) (hw : SrcOk Y wi X.K cs) (hb : PSs X sa (denS X.K Y fa)) (hN : X.N[i]? = some x := by rfl)
    (hx : Loc X.env.scope x := by first | exact Or.inl rfl | exact Or.inr rfl) (hf : X.fn x = true ∨ X.env.scope.names.lookup x = some .local := by first | exact .inl rfl | exact .inr rfl | assumption) (hs : ∀ x, foldedSetIterable iter X.env x = pure x := by intro _; rfl) :
    PS X (.For (.Name x px) iter sa [] pos) (denS X.K Y (loopM cs i fa)) := ps_imp (ps_for hp hc hi (pg_name nd hN hx hf) hb hs) fun _ _ _ => den_for hw
theorem swhile (n : Nat) (hp : PassesOwn (model X.prog X.w) X.A X.env X.xe) (hc : PT X c (denT X.K Y tc)) (hb : PSs X sa (denS X.K Y fa)) : PS X (.While c sa [] pos) (denS X.K Y (whM tc fa n)) := ps_imp (ps_while hp hc hb) fun _ _ _ => den_while
/-! ### comprehensions -/
theorem tsN : PTs X [] (denT X.K Y (ret true)) := ⟨fun pins s σ H Q I h => pts_nil.run pins s σ H Q I (by
  obtain ⟨C, W, s, at', p⟩ := h
  exact p W H (Vw.Le.refl _) at')⟩
theorem olc (i : Nat) {x : Str} {elt iter : Expr} {ifs : List Expr} {scope : Scope} {own : List (Str × Nat)} {wi : TI} {cs : M (List PV)} (hc : X.calm = true) (nd : X.N.Nodup) (hi : PI X (.Name x px) iter wi) (hw : SrcOk Y wi X.K cs) (ok : BlkOk X.N X.env.scope scope own) (hio : i ∈ own.map (·.2))
    (hg : ∀ (s : Shared) (H : Hp) (C : Addr) (cl : List (Str × Addr)) (fp : List Addr), PG (X.blk s H scope (compEnvC scope cl C X.env) fp) (.Name x px) (gName i)) (ht : ∀ (s : Shared) (H : Hp) (C : Addr) (cl : List (Str × Addr)) (fp : List Addr), PTs (X.blk s H scope (compEnvC scope cl C X.env) fp) ifs (denT X.K yF tc))
    (he : ∀ (s : Shared) (H : Hp) (C : Addr) (cl : List (Str × Addr)) (fp : List Addr), PE (X.blk s H scope (compEnvC scope cl C X.env) fp) elt (den X.K yF ce)) (hs : ∀ x, foldedSetIterable iter X.env x = pure x := by intro _; rfl) :
    PE X (.ListComp elt [⟨.Name x px, iter, ifs, 0⟩] scope pos) (denO X.K Y (lcM cs i (own.map (·.2)) tc ce)) := pe_imp (pe_lc hc nd hi ok hg ht he hs) fun _ _ _ => den_lc hw hio
/-- the same, the value at once frozen -/
theorem slcV (l i : Nat) {y x : Str} {py : Pos} {elt iter : Expr} {ifs : List Expr} {scope : Scope} {own : List (Str × Nat)} {spos : Pos} {wi : TI} {cs : M (List PV)} (hc : X.calm = true) (nd : X.N.Nodup) (hi : PI X (.Name x px) iter wi) (hw : SrcOk Y wi X.K cs) (ok : BlkOk X.N X.env.scope scope own) (hio : i ∈ own.map (·.2))
    (hg : ∀ (s : Shared) (H : Hp) (C : Addr) (cl : List (Str × Addr)) (fp : List Addr), PG (X.blk s H scope (compEnvC scope cl C X.env) fp) (.Name x px) (gName i)) (ht : ∀ (s : Shared) (H : Hp) (C : Addr) (cl : List (Str × Addr)) (fp : List Addr), PTs (X.blk s H scope (compEnvC scope cl C X.env) fp) ifs (denT X.K yF tc))
    (he : ∀ (s : Shared) (H : Hp) (C : Addr) (cl : List (Str × Addr)) (fp : List Addr), PE (X.blk s H scope (compEnvC scope cl C X.env) fp) elt (den X.K yF ce)) (hy : X.N[l]? = some y := by rfl) (hyl : X.env.scope.names.lookup y = some .local := by rfl)
    (hsw : swapsWith (.ListComp elt [⟨.Name x px, iter, ifs, 0⟩] scope pos) (some (.Name y py)) spos.line X.env = pure true := by exact sw_true rfl rfl rfl (by kernel_rfl)) (hs : ∀ x, foldedSetIterable iter X.env x = pure x := by intro _; rfl) :
    PS X (.Assign [.Name y py] (.ListComp elt [⟨.Name x px, iter, ifs, 0⟩] scope pos) spos) (denS X.K Y (asgM l (lstM (lcM cs i (own.map (·.2)) tc ce)))) :=
  ps_imp (ps_setLc hc nd hy hyl hsw hi ok hg ht he hs) fun D σ H h => by
    obtain ⟨C, W, s, at', p⟩ := h
    refine (den_lc hw hio ⟨C, W, s, at', ?_⟩ : tLc wi (gName i) _ _ _ σ H (fun x H1 => gName l x σ H1 D.nx))
    refine (Pst.bnd (f := fun ds => ret (PV.lst ds)) (PstS.bnd p)).imp fun ds s1 W1 H1 l1 at1 p1 q vs hq rvs => ?_
    obtain ⟨W2, l2, at2, r2⟩ := at1.layL hq rvs
    exact (p1 W2 _ l2 at2) W2 _ _ (Vw.Le.refl _) (at2.set r2 l)
/-! ### methods of lists that a name owns -/
theorem xapp (i : Nat) {x : Str} {apos : Pos} (he : PE X e (den X.K Y ce)) (hN : X.N[i]? = some x := by rfl) (hv : Vis X.env.scope x := by first | exact Or.inl rfl | exact Or.inr (Or.inl rfl) | exact Or.inr (Or.inr rfl)) (hd : (x == ("__debug__" : Str)) = false := by decide) (hcd : (x == ("__classdict__" : Str)) = false := by decide)
    (hbase : attributeBase (.Name x px) "append" X.env (eval (.Name x px) X.env) = eval (.Name x px) X.env := by rfl)
    (hfew : ((backTo pos (starEach [e] X.env)).all (fun x => !x.1) && (backToKw pos (keywordEach [] X.env)).all (fun x => x.1.isSome) && decide ([e].length + ([] : List Keyword).length + (if ([] : List Keyword).isEmpty then 0 else 1) < 30)) = true := by rfl)
    (hline : (apos.endLine == pos.line) = true := by rfl) (hs : starEach [e] X.env = (false, eval e X.env) :: starEach [] X.env := by rfl) (hplain : (backTo pos (starEach [] X.env)).any (·.1) = false := by rfl) :
    PE X (.Call (.Attribute (.Name x px) "append" apos) [e] [] pos) (den X.K Y (appM i ce)) :=
  pe_imp (pe_bm PySem.F.plainAttrs_list PySem.F.slot_list_append PySem.F.type_list_append mt_append (pe_var hN hv hd hcd) (pa_cons he pa_nil hs) hbase hfew hline hs hplain) fun _ _ _ => den_app
theorem xpop (i : Nat) {x : Str} {apos : Pos} (he : PE X e (den X.K Y ce)) (hN : X.N[i]? = some x := by rfl) (hv : Vis X.env.scope x := by first | exact Or.inl rfl | exact Or.inr (Or.inl rfl) | exact Or.inr (Or.inr rfl)) (hd : (x == ("__debug__" : Str)) = false := by decide) (hcd : (x == ("__classdict__" : Str)) = false := by decide)
    (hbase : attributeBase (.Name x px) "pop" X.env (eval (.Name x px) X.env) = eval (.Name x px) X.env := by rfl)
    (hfew : ((backTo pos (starEach [e] X.env)).all (fun x => !x.1) && (backToKw pos (keywordEach [] X.env)).all (fun x => x.1.isSome) && decide ([e].length + ([] : List Keyword).length + (if ([] : List Keyword).isEmpty then 0 else 1) < 30)) = true := by rfl)
    (hline : (apos.endLine == pos.line) = true := by rfl) (hs : starEach [e] X.env = (false, eval e X.env) :: starEach [] X.env := by rfl) (hplain : (backTo pos (starEach [] X.env)).any (·.1) = false := by rfl) :
    PE X (.Call (.Attribute (.Name x px) "pop" apos) [e] [] pos) (den X.K Y (popM i ce)) :=
  pe_imp (pe_bm PySem.F.plainAttrs_list PySem.F.slot_list_pop PySem.F.type_list_pop mt_popAt (pe_var hN hv hd hcd) (pa_cons he pa_nil hs) hbase hfew hline hs hplain) fun _ _ _ => den_pop
/-! ### dict displays: handles -/
theorem kN : PPs X pos [] [] (trsOf X.K Y []) := pps_nil
theorem kC {x : Str} {j : Nat} {p2 : Pos} {v : Expr} {ks : List (Option Expr)} {vs : List Expr} {cv : M PV} {r : List (Str × M PV)} (hv : PE X v (den X.K Y cv)) (hr : PPs X pos ks vs (trsOf X.K Y r)) : PPs X pos (some (.Constant (.str x) j p2) :: ks) (v :: vs) (trsOf X.K Y ((x, cv) :: r)) := pps_cons pe_str hv hr
/-! ### calls -/
theorem xcall {m : Fn} {np : Nat} {cs : M (List PV)} {x : Str} {f : Addr} {fd : FuncData} {ps : List Str} (n : Nat) (F : FnG X.prog X.w X.K X.mg X.base (L2.CX X.prog X.w) k f fd ps (spM X.K np m)) (hl : ∀ n ds st, m n ds st ≠ .stk → ds.length = np) (hgd : X.A.guards = some []) (hr : Room k X.A) (tk : Takes X Y) (hm : X.mg x = some (.ref f)) (hk : PySem.W.keepIn X.K (.ref f) = true)
    (hb : Binds X.K fd ps []) (ha : PA X (e :: es) (denA X.K Y cs)) (hg : Gl X x := by rfl) (hdb : (x == ("__debug__" : Str)) = false := by decide) (he : starEach (e :: es) X.env = (false, eval e X.env) :: starEach es X.env := by rfl) (hpl : (backTo pos (starEach es X.env)).any (·.1) = false := by rfl) :
    PE X (.Call (.Name x p) (e :: es) [] pos) (den X.K Y (callM m n cs)) := pe_imp (pe_callG F hgd hr hg hm hk hb (fun σ => passAt tk σ) ha hdb he hpl) fun _ _ _ => den_call (hl n)
end
theorem takesF {X : Cx} : Takes X yF := fun _ _ x => by
  obtain ⟨_, _, _, _, _, _, _, _, _, _, _, _, _, _, _, _, w⟩ := x
  exact w.elim
theorem roomU {k : Nat} {A : Around} (h : Room k A) : A.units + 128 < cLine := by have := h.un; omega
/-- what a def of the text needs to be called -/
structure Df (P : Program) (w : World) (K : PySem.W.Frag) (mg : Str → Option Value) (base : Heap) (k : Nat) (x : Str) (ps : List Str) (m : Fn) : Prop where
  ex : ∃ (f : Addr) (fd : FuncData), FnG P w K mg base (L2.CX P w) k f fd ps (spM K ps.length m) ∧ mg x = some (.ref f) ∧ PySem.W.keepIn K (.ref f) = true ∧ Binds K fd ps []
  len : ∀ n ds st, m n ds st ≠ .stk → ds.length = ps.length
theorem xdef {Y : WX} {X : Cx} {k j : Nat} {x : Str} {ps : List Str} {m : Fn} {cs : M (List PV)} {e : Expr} {es : List Expr} {p pos : Pos} (n : Nat) (F : Df X.prog X.w X.K X.mg X.base j x ps m) (hgd : X.A.guards = some []) (hr : Room k X.A) (tk : Takes X Y) (hjk : j ≤ k) (ha : PA X (e :: es) (denA X.K Y cs)) (hg : Gl X x := by rfl)
    (hdb : (x == ("__debug__" : Str)) = false := by decide) (he : starEach (e :: es) X.env = (false, eval e X.env) :: starEach es X.env := by rfl) (hpl : (backTo pos (starEach es X.env)).any (·.1) = false := by rfl) :
    PE X (.Call (.Name x p) (e :: es) [] pos) (den X.K Y (callM m n cs)) := by
  obtain ⟨f, fd, G, hm, hk, hb⟩ := F.ex
  exact xcall n G F.len hgd (hr.mono hjk) tk hm hk hb ha hg hdb he hpl
end Dn
/-! Den9: the law's end. -/
namespace Dn
open PySem L2 PySem.Spec PyProof.Rows
theorem xdisp {X : Cx} {keys : List (Option Expr)} {values : List Expr} {pos : Pos} {kcs : List (Str × M PV)} (h : PPs X pos keys values (trsOf X.K Y kcs)) (hall : keys.all (·.isSome) = true := by rfl) (hl : keys.length = values.length := by rfl) (h0 : keys ≠ [] := by exact fun z => by cases z) (h15 : keys.length ≤ 15 := by decide) :
    PE X (.Dict keys values pos) (den X.K Y (dispM kcs)) := pe_imp (pe_disp h hall hl h0 h15) fun _ _ _ => den_disp
/-! ### a, b = e -/
def gNs : List Nat → TGs
  | [] => gNil
  | i :: r => gCons (gName i) (gNs r)
def setAll : List Nat → List PV → M Fl
  | [], [] => ret .nx
  | i :: is, d :: ds => bnd (setV i d) fun _ => setAll is ds
  | _, _ => stuck
def unpM (is : List Nat) (c : M PV) : M Fl := bnd c fun d => match d with
  | .tup xs => if xs.length = is.length then setAll is xs else stuck
  | _ => stuck
theorem den_setAll {K : PySem.W.Frag} : ∀ (is : List Nat) (ds : List PV) {C : Ctx} {W : Vw} {s : S} {σ : L2.St} {H : Hp} {D : Ends} {vs : List V}, At K C W s σ H → Reps K W vs ds → PstS K C W D (setAll is ds s) → gNs is vs σ H D.nx
  | [], [], C, W, s, σ, H, D, vs, a, r, p => by
    cases r
    exact ⟨rfl, p W σ H (Vw.Le.refl _) a⟩
  | i :: is, d :: ds, C, W, s, σ, H, D, vs, a, r, p => by
    cases r with
    | cons r rs => exact ⟨_, _, rfl, den_setAll is ds (a.set r i) rs p⟩
  | [], _ :: _, _, _, _, _, _, _, _, _, _, p => p.elim
  | _ :: _, [], _, _, _, _, _, _, _, _, _, p => p.elim
theorem den_unp {K : PySem.W.Frag} {is : List Nat} {ca : M PV} {D : Ends} {σ : L2.St} {H : Hp} (h : denS K Y (unpM is ca) D σ H) : tAsg (den K Y ca) (gTup K is.length (gNs is)) D σ H := by
  obtain ⟨C, W, s, at', p⟩ := h
  refine ⟨C, W, s, at', (PstS.bnd p).imp fun d s1 W1 H1 l1 at1 p1 v rv => ?_⟩
  cases d <;> try exact p1.elim
  rename_i xs
  cases rv with
  | tup hq rs =>
    have p2 : PstS K (C.wi Y) W1 D ((if xs.length = is.length then setAll is xs else stuck) s1) := p1
    by_cases hl : xs.length = is.length
    · rw [if_pos hl] at p2
      exact ⟨_, _, rfl, same_t at1.ok.sub hq, by rw [rs.length]; exact hl, den_setAll _ _ at1 rs p2⟩
    · rw [if_neg hl] at p2
      exact p2.elim
theorem gn {X : Cx} (i : Nat) {x : Str} {px : Pos} (nd : X.N.Nodup) (hN : X.N[i]? = some x := by rfl) (hx : Loc X.env.scope x := by first | exact Or.inl rfl | exact Or.inr rfl) (hf : X.fn x = true ∨ X.env.scope.names.lookup x = some .local := by first | exact .inl rfl | exact .inr rfl | assumption) : PG X (.Name x px) (gName i) := pg_name nd hN hx hf
theorem sunp {X : Cx} (is : List Nat) {ca : M PV} {e : Expr} {es : List Expr} {pos pt : Pos} {kt : Nat} (hc : X.calm = true) (he : PE X e (den X.K Y ca)) (hg : PGs X es (gNs is)) (hn : (assignEach es X.env).length = is.length := by rfl) (hst : (assignEach es X.env).findIdx? (·.1) = none := by rfl)
    (hs : swapsWithSole [.Tuple es kt pt] e pos.line X.env = pure false := by rfl) (hw : swappedStores [.Tuple es kt pt] e X.env = pure none := by rfl) (h1 : (assignEach [.Tuple es kt pt] X.env).map (·.2) = [assign (.Tuple es kt pt) X.env] := by rfl) :
    PS X (.Assign [.Tuple es kt pt] e pos) (denS X.K Y (unpM is ca)) := ps_imp (ps_asg he (pg_tup hc hg hn hst) hs hw h1) fun _ _ _ => den_unp
theorem den_tup2VO {K : PySem.W.Frag} {i j : Nat} {ca : M PV} {cb : M (List PV)} {D : Ends} {σ : L2.St} {H : Hp} (h : denS K Y (par2VO i j ca cb) D σ H) : tAsg (tTup (tCons (den K Y ca) (tCons (denO K Y cb) tNil))) (gTup K 2 (gNs [i, j])) D σ H := by
  obtain ⟨C, W, s, at', p⟩ := h
  refine ⟨C, W, s, at', (PstS.bnd p).imp fun x s1 W1 H1 l1 at1 p1 v rv => ⟨C, W1, s1, at1, (PstS.bnd p1).imp fun y s2 W2 H2 l2 at2 p2 q vs hq rvs => ?_⟩⟩
  refine ⟨by show 2 ≤ sizeLine; decide, fun t ht => ⟨t, _, rfl, SqT.of upd_same, rfl, ?_⟩⟩
  have at3 := ((at2.set (rv.mono l2) i).setO hq rvs j).extra ht (.tup [v, .ref q])
  exact ⟨_, _, rfl, _, _, rfl, rfl, p2 W2 _ _ (Vw.Le.refl _) at3⟩
/-- one of the names a cell -/
theorem spar2VOc (i j : Nat) {X : Cx} {x y : Str} {kt k2 : Nat} {px py pt pt2 pos : Pos} {a b : Expr} {ca : M PV} {cb : M (List PV)} (hc : X.calm = true) (nd : X.N.Nodup) (ha : PE X a (den X.K Y ca)) (hb : PE X b (denO X.K Y cb)) (h1 : starEach [a, b] X.env = (false, eval a X.env) :: starEach [b] X.env := by rfl)
    (h2 : starEach [b] X.env = (false, eval b X.env) :: starEach [] X.env := by rfl) (hg : PGs X [.Name x px, .Name y py] (gNs [i, j]) := by exact pgs_cons (gn _ nd) (pgs_cons (gn _ nd) pgs_nil)) (hn : (assignEach [.Name x px, .Name y py] X.env).length = 2 := by rfl) (hst : (assignEach [.Name x px, .Name y py] X.env).findIdx? (·.1) = none := by rfl)
    (hs : swapsWithSole [.Tuple [.Name x px, .Name y py] kt pt] (.Tuple [a, b] k2 pt2) pos.line X.env = pure false := by rfl) (hw : swappedStores [.Tuple [.Name x px, .Name y py] kt pt] (.Tuple [a, b] k2 pt2) X.env = pure none := by rfl)
    (h3 : (assignEach [.Tuple [.Name x px, .Name y py] kt pt] X.env).map (·.2) = [assign (.Tuple [.Name x px, .Name y py] kt pt) X.env] := by rfl) :
    PS X (.Assign [.Tuple [.Name x px, .Name y py] kt pt] (.Tuple [a, b] k2 pt2) pos) (denS X.K Y (par2VO i j ca cb)) := ps_imp (ps_asg (pe_tup (pa_cons ha (pa_cons hb pa_nil h2) h1)) (pg_tup hc hg hn hst) hs hw h3) fun _ _ _ => den_tup2VO
/-! ### -e -/
def negP : PV → Option PV
  | .int i => some (.int (-i))
  | _ => none
abbrev fNeg (a : PV) : M PV := lft (negP a)
theorem den_neg {K : PySem.W.Frag} {ca : M PV} {σ : L2.St} {H : Hp} {Q : VK} (h : den K Y (bnd ca fNeg) σ H Q) : tUn (rU fun i => .int (-i)) (den K Y ca) σ H Q := by
  obtain ⟨C, W, s, at', p⟩ := h
  refine ⟨C, W, s, at', (Pst.bnd p).imp fun a s1 W1 H1 l1 at1 p1 v rv => ?_⟩
  obtain ⟨d, e, q⟩ := p1.lft'
  have q0 := q W1 H1 (Vw.Le.refl W1) at1
  unfold negP at e
  split at e
  · cases e
    cases rv
    exact ⟨_, rfl, q0 _ (.int _)⟩
  · cases e
theorem xneg {X : Cx} {e : Expr} {ce : M PV} {pos : Pos} (h : PE X e (den X.K Y ce)) : PE X (.UnaryOp .USub e pos) (den X.K Y (bnd ce fNeg)) := pe_imp (pe_un un_neg h) fun _ _ _ => den_neg
/-- the script's place: known to the object, or one of the module's own -/
def scrH (K : PySem.W.Frag) (a : Addr) (ob : Obj) (ns : List Int) : Hp := fun b => if b = a ∧ K.lookup a = none then some (.frz ob (.lst (ns.map V.int))) else none
end Dn
/-! Ob1: instances: made as two handles (the object, its dict), frozen when they are done. -/
namespace Dn
open PySem L2 PySem.Spec PyProof.Rows
section
variable {Y : WX} {K : PySem.W.Frag} {C : Ctx} {W W' : Vw} {σ : L2.St} {H : Hp} {s : S} {x dx Cc : Addr} {c : Str} {Q : VK}
theorem two_left {α : Type} {l : List α} {a b : α} {n : Nat} (h : n < l.length) : (l ++ [a, b])[n]? = l[n]? := List.getElem?_append_left h
theorem two_0 {α : Type} {l : List α} {a b : α} : (l ++ [a, b])[l.length]? = some a := by
  rw [List.getElem?_append_right (Nat.le_refl _), Nat.sub_self]
  rfl
theorem two_1 {α : Type} {l : List α} {a b : α} : (l ++ [a, b])[l.length + 1]? = some b := by
  rw [List.getElem?_append_right (Nat.le_succ _), show l.length + 1 - l.length = 1 by omega]
  rfl
theorem two_cases {α : Type} {l : List α} {a b z : α} {n : Nat} (h : (l ++ [a, b])[n]? = some z) : (n < l.length ∧ l[n]? = some z) ∨ (n = l.length ∧ z = a) ∨ (n = l.length + 1 ∧ z = b) := by
  have hlt := (List.getElem?_eq_some_iff.mp h).1
  rw [List.length_append] at hlt
  have hlt : n < l.length + 2 := hlt
  by_cases h1 : n < l.length
  · rw [two_left h1] at h
    exact .inl ⟨h1, h⟩
  · by_cases h2 : n = l.length
    · subst h2
      rw [two_0] at h
      exact .inr (.inl ⟨rfl, (Option.some.inj h).symm⟩)
    · have h3 : n = l.length + 1 := by omega
      subst h3
      rw [two_1] at h
      exact .inr (.inr ⟨rfl, (Option.some.inj h).symm⟩)
/-- a new instance and its dict: two handles -/
theorem At.newI (h : At K C W s σ H) (hx : H x = none) (hd : H dx = none) (ne : dx ≠ x) (hc : ClsAt K c Cc) :
    W.Le ⟨W.F, W.hs ++ [x, dx]⟩ ∧ At K C ⟨W.F, W.hs ++ [x, dx]⟩ { s with sto := s.sto ++ [.ins c [] [], .own s.sto.length] } σ (upd (upd H dx (.own x)) x (.ins Cc dx [])) ∧ Rep K ⟨W.F, W.hs ++ [x, dx]⟩ (.ref x) (.hnd s.sto.length) := by
  obtain ⟨f1, f2, f3⟩ := h.fresh hx
  obtain ⟨g1, g2, g3⟩ := h.fresh hd
  have len := h.ok.len
  have le : W.Le ⟨W.F, W.hs ++ [x, dx]⟩ := ⟨Same.refl _, fun n a e => by
    show (W.hs ++ [x, dx])[n]? = _
    rw [two_left (List.getElem?_eq_some_iff.mp e).1]
    exact e⟩
  have h0 : (W.hs ++ [x, dx])[s.sto.length]? = some x := by rw [len]; exact two_0
  have h1 : (W.hs ++ [x, dx])[s.sto.length + 1]? = some dx := by rw [len]; exact two_1
  have eo : ∀ {b : Addr}, b ≠ x → b ≠ dx → upd (upd H dx (.own x)) x (.ins Cc dx []) b = H b := fun {b} n1 n2 => by rw [upd_ne n1, upd_ne n2]
  refine ⟨le, ⟨⟨fun b u e => ?_, fun n b e => ?_, ?_, ?_⟩, fun b u e hb => ?_, fun n b e => le.pre n b (h.pre n b e), fun b hb => ?_, h.len, fun j e he => ?_, fun j ys e => ?_, h.dst⟩, .hnd h0⟩
  · rw [eo (fun z => by rw [z, f1] at e; cases e) (fun z => by rw [z, g1] at e; cases e)]
    exact h.ok.sub b u e
  · have e : (W.hs ++ [x, dx])[n]? = some b := e
    rcases two_cases e with ⟨hn, e⟩ | ⟨hn, rfl⟩ | ⟨hn, rfl⟩
    · have nb : b ≠ x ∧ b ≠ dx := ⟨fun z => f2 (z ▸ List.mem_of_getElem? e), fun z => g2 (z ▸ List.mem_of_getElem? e)⟩
      refine (h.ok.hnd n b e).map rfl ?_ fun mo r => (r.at (eo nb.1 nb.2)).mono le
      show (s.sto ++ _)[n]? = _
      rw [two_left (by rw [len]; exact hn)]
    · refine .inl ⟨f1, .ins c [] [], ?_, .ins (n := s.sto.length) (us := []) hc ?_ h0 h1 rfl .nil⟩
      · show (s.sto ++ [_, _])[n]? = _
        rw [hn, ← len]
        exact two_0
      · exact upd_same
    · refine .inl ⟨g1, .own s.sto.length, ?_, .own h0 ?_⟩
      · show (s.sto ++ [_, _])[n]? = _
        rw [hn, ← len]
        exact two_1
      · rw [upd_ne ne, upd_same]
  · show (W.hs ++ [x, dx]).Nodup
    rw [List.nodup_append]
    refine ⟨h.ok.nd, by simp [ne.symm], fun a ha b hb z => ?_⟩
    subst z
    simp only [List.mem_cons, List.not_mem_nil, or_false] at hb
    rcases hb with rfl | rfl
    · exact f2 ha
    · exact g2 ha
  · show (s.sto ++ _).length = (W.hs ++ _).length
    rw [List.length_append, List.length_append, len]
    rfl
  · rw [eo (fun z => by rw [z, f3] at e; cases e) (fun z => by rw [z, g3] at e; cases e)]
    exact h.keep b u e hb
  · obtain ⟨k1, k2⟩ := h.gro b hb
    refine ⟨k1, fun hm => ?_⟩
    rcases List.mem_append.mp hm with hm | hm
    · exact k2 hm
    · simp only [List.mem_cons, List.not_mem_nil, or_false] at hm
      rcases hm with rfl | rfl
      · exact absurd f3 hb
      · exact absurd g3 hb
  · obtain ⟨v, e1, r⟩ := h.val j e he
    exact ⟨v, e1, r.mono le⟩
  · obtain ⟨b, ws, e1, ow, e2, r2⟩ := h.own j ys e
    have n1 : b ≠ x := ne_of_none e2 hx
    have n2 : b ≠ dx := ne_of_none e2 hd
    refine ⟨b, ws, e1, ⟨ow.f, fun hm => ?_, ow.g⟩, by rw [eo n1 n2]; exact e2, r2.mono le⟩
    rcases List.mem_append.mp hm with hm | hm
    · exact ow.h hm
    · simp only [List.mem_cons, List.not_mem_nil, or_false] at hm
      rcases hm with rfl | rfl
      · exact n1 rfl
      · exact n2 rfl
/-- a handle of this body's making is nothing of the callers' -/
theorem At.mine {n : Nat} {a : Addr} (h : At K C W s σ H) (hn : C.hs0.length ≤ n) (e : W.hs[n]? = some a) : C.G a = none ∧ a ∉ C.hs0 := by
  have no : a ∉ C.hs0 := fun hm => by
    obtain ⟨m, hm⟩ := List.getElem?_of_mem hm
    have e2 := h.pre m a hm
    obtain ⟨l1, y1⟩ := List.getElem?_eq_some_iff.mp e
    obtain ⟨l2, y2⟩ := List.getElem?_eq_some_iff.mp e2
    have : n = m := (List.getElem_inj h.ok.nd).mp (y1.trans y2.symm)
    have := (List.getElem?_eq_some_iff.mp hm).1
    omega
  refine ⟨?_, no⟩
  cases z : C.G a with
  | none => rfl
  | some o => exact absurd ((h.gro a (by rw [z]; exact fun q => nomatch q)).2 (List.mem_of_getElem? e)) no
/-- the instance at the handle k is done: it is a value from now on -/
theorem At.done {k : Nat} {ks : List Str} {vs : List PV} (h : At K C W s σ H) (hk : C.hs0.length ≤ k) (hx : W.hs[k]? = some x) (e1 : s.sto[k]? = some (.ins c ks vs)) (e2 : s.sto[k + 1]? = some (.own k)) :
    ∃ W', W.Le W' ∧ At K C W' { s with sto := (s.sto.set k .gone).set (k + 1) .gone } σ H ∧ Rep K W' (.ref x) (.obj c ks vs) := by
  obtain ⟨fx, mx⟩ := h.ok.live hx e1 (fun z => nomatch z)
  cases mx with
  | @ins Cc dx n _ _ us _ hc hH hn hn1 hl ru =>
  have ix : ∀ {m m' : Nat} {a : Addr}, W.hs[m]? = some a → W.hs[m']? = some a → m = m' := fun {m m' a} p q => by
    obtain ⟨l1, y1⟩ := List.getElem?_eq_some_iff.mp p
    obtain ⟨l2, y2⟩ := List.getElem?_eq_some_iff.mp q
    exact (List.getElem_inj h.ok.nd).mp (y1.trans y2.symm)
  have hnk : n = k := ix hn hx
  subst hnk
  obtain ⟨fd, md⟩ := h.ok.live hn1 e2 (fun z => nomatch z)
  cases md with
  | @own m x' hm hHd =>
  rw [hx] at hm
  cases hm
  have ne : dx ≠ x := fun z => by
    have := ix hn1 (z ▸ hx)
    omega
  obtain ⟨gx, nx⟩ := h.mine hk hx
  obtain ⟨gd, nd⟩ := h.mine (Nat.le_succ_of_le hk) hn1
  let F' : Hp := upd (upd W.F x (.ins Cc dx (ks.zip us))) dx (.own x)
  have eF : ∀ {b : Addr}, b ≠ x → b ≠ dx → F' b = W.F b := fun {b} n1 n2 => by
    show upd (upd W.F x _) dx _ b = _
    rw [upd_ne n2, upd_ne n1]
  have Fx : F' x = some (.ins Cc dx (ks.zip us)) := by
    show upd (upd W.F x _) dx _ x = _
    rw [upd_ne ne.symm, upd_same]
  have Fd : F' dx = some (.own x) := upd_same
  have le : W.Le ⟨F', W.hs⟩ := ⟨fun b u e => (eF (fun z => by rw [z, fx] at e; cases e) (fun z => by rw [z, fd] at e; cases e)).trans e, fun _ _ e => e⟩
  have l1 : n < s.sto.length := (List.getElem?_eq_some_iff.mp e1).1
  have l2 : n + 1 < s.sto.length := (List.getElem?_eq_some_iff.mp e2).1
  refine ⟨⟨F', W.hs⟩, le, ⟨⟨fun b u e => ?_, fun m b e => ?_, h.ok.nd, ?_⟩, h.keep, h.pre, fun b hb => ?_, h.len, fun j e he => ?_, fun j ys e => ?_, h.dst⟩, .obj hc Fx Fd hl (ru.mono le)⟩
  · have e : F' b = some u := e
    by_cases hb : b = x
    · subst hb
      rw [Fx] at e
      rw [hH]
      exact e
    · by_cases hb2 : b = dx
      · subst hb2
        rw [Fd] at e
        rw [hHd]
        exact e
      · rw [eF hb hb2] at e
        exact h.ok.sub b u e
  · by_cases hm : m = n
    · subst hm
      have hbx : b = x := by
        have e : W.hs[m]? = some b := e
        rw [hx] at e
        exact (Option.some.inj e).symm
      subst hbx
      refine .inr ⟨by (show F' b ≠ none; rw [Fx]; exact fun z => nomatch z), ?_⟩
      show ((s.sto.set m .gone).set (m + 1) .gone)[m]? = _
      rw [List.getElem?_set_ne (by omega), List.getElem?_set_self l1]
    · by_cases hm2 : m = n + 1
      · subst hm2
        have hbd : b = dx := by
          have e : W.hs[n + 1]? = some b := e
          rw [hn1] at e
          exact (Option.some.inj e).symm
        subst hbd
        refine .inr ⟨by (show F' b ≠ none; rw [Fd]; exact fun z => nomatch z), ?_⟩
        show ((s.sto.set n .gone).set (n + 1) .gone)[n + 1]? = _
        rw [List.getElem?_set_self (by rw [List.length_set]; exact l2)]
      · have n1 : b ≠ x := fun z => hm (ix e (z ▸ hx))
        have n2 : b ≠ dx := fun z => hm2 (ix e (z ▸ hn1))
        refine (h.ok.hnd m b e).map (eF n1 n2) ?_ fun mo r => r.mono le
        show ((s.sto.set n .gone).set (n + 1) .gone)[m]? = _
        rw [List.getElem?_set_ne (fun z => hm2 z.symm), List.getElem?_set_ne (fun z => hm z.symm)]
  · show ((s.sto.set n .gone).set (n + 1) .gone).length = _
    rw [List.length_set, List.length_set]
    exact h.ok.len
  · obtain ⟨k1, k2⟩ := h.gro b hb
    exact ⟨(eF (fun z => hb (by rw [z]; exact gx)) (fun z => hb (by rw [z]; exact gd))).trans k1, k2⟩
  · obtain ⟨v, q1, r⟩ := h.val j e he
    exact ⟨v, q1, r.mono le⟩
  · obtain ⟨b, ws, q1, ow, q2, r2⟩ := h.own j ys e
    have n1 : b ≠ x := fun z => ow.h (z ▸ List.mem_of_getElem? hx)
    have n2 : b ≠ dx := fun z => ow.h (z ▸ List.mem_of_getElem? hn1)
    exact ⟨b, ws, q1, ⟨(eF n1 n2).trans ow.f, ow.h, ow.g⟩, q2, r2.mono le⟩
end
end Dn
/-! Ob2: attributes of instances, read and stored. -/
namespace Dn
open PySem L2 PySem.Spec PyProof.Rows
def putKV (f : Str) (v : PV) : List Str → List PV → List Str × List PV
  | k :: ks, w :: vs => if k = f then (k :: ks, v :: vs) else let r := putKV f v ks vs; (k :: r.1, w :: r.2)
  | _, _ => ([f], [v])
section
variable {Y : WX} {K : PySem.W.Frag} {C : Ctx} {W W' : Vw} {σ : L2.St} {H : Hp} {s : S} {Q : VK} {ca cv : M PV} {D : Ends} {f : Str} {ks : List Str} {us : List V} {vs : List PV} {d : PV} {y : V}
theorem zip_look : ∀ {ks : List Str} {us : List V} {vs : List PV} {d : PV}, Reps K W us vs → (ks.zip vs).lookup f = some d → ∃ v, (ks.zip us).lookup f = some v ∧ Rep K W v d
  | [], _, _, _, _, h => by cases h
  | k :: ks, _, _, _, .nil, h => by cases h
  | k :: ks, u :: us, v :: vs, d, .cons r rs, h => by
    rw [List.zip_cons_cons, List.lookup] at h ⊢
    cases e : f == k with
    | true =>
      rw [e] at h
      cases h
      exact ⟨u, rfl, r⟩
    | false =>
      rw [e] at h
      exact zip_look rs h
theorem zip_none : ∀ {ks : List Str} {us : List V} {vs : List PV}, Reps K W us vs → ks.length = vs.length → (ks.zip vs).lookup f = none → (ks.zip us).lookup f = none
  | [], _, _, _, _, _ => rfl
  | k :: ks, _, _, .nil, l, _ => by cases l
  | k :: ks, u :: us, v :: vs, .cons r rs, l, h => by
    rw [List.zip_cons_cons, List.lookup] at h ⊢
    cases e : f == k with
    | true => rw [e] at h; cases h
    | false =>
      rw [e] at h
      exact zip_none rs (by simpa using l) h
theorem zip_put (ry : Rep K W y d) : ∀ {ks : List Str} {us : List V} {vs : List PV}, Reps K W us vs → ks.length = vs.length → ∃ us', putF f y (ks.zip us) = (putKV f d ks vs).1.zip us' ∧ Reps K W us' (putKV f d ks vs).2 ∧ (putKV f d ks vs).1.length = (putKV f d ks vs).2.length
  | [], us, [], r, _ => by
    cases r
    exact ⟨[y], rfl, .cons ry .nil, rfl⟩
  | [], _, _ :: _, _, l => by cases l
  | k :: ks, _, _, .nil, l => by cases l
  | k :: ks, u :: us, v :: vs, .cons r rs, l => by
    have l' : ks.length = vs.length := by simpa using l
    show ∃ us', putF f y ((k, u) :: ks.zip us) = _ ∧ _
    unfold putF putKV
    by_cases h : k = f
    · rw [if_pos h, if_pos h]
      exact ⟨y :: us, rfl, .cons ry rs, by simpa using l'⟩
    · rw [if_neg h, if_neg h]
      obtain ⟨us', e1, e2, e3⟩ := zip_put ry rs l'
      exact ⟨u :: us', by rw [e1]; rfl, .cons r e2, by simpa using e3⟩
/-- an instance where it stands: a value, or a handle -/
def insOf (s : S) : PV → Option (Str × List Str × List PV)
  | .obj c ks vs => some (c, ks, vs)
  | .hnd n => match s.sto[n]? with
    | some (.ins c ks vs) => some (c, ks, vs)
    | _ => none
  | _ => none
theorem insOf_rep {x : V} {c : Str} (h : At K C W s σ H) (r : Rep K W x d) (e : insOf s d = some (c, ks, vs)) : ∃ a Cc dx us, x = .ref a ∧ ClsAt K c Cc ∧ H a = some (.ins Cc dx (ks.zip us)) ∧ ks.length = vs.length ∧ Reps K W us vs := by
  cases r <;> try (have e : (none : Option (Str × List Str × List PV)) = some (c, ks, vs) := e; cases e)
  · rename_i a n hn
    unfold insOf at e
    dsimp only at e
    split at e
    · rename_i hs
      cases e
      cases (h.ok.live hn hs (fun z => nomatch z)).2 with
      | ins hc hH _ _ l ru => exact ⟨a, _, _, _, rfl, hc, hH, l, ru⟩
    · cases e
  · rename_i hc hF hd l ru
    cases e
    exact ⟨_, _, _, _, rfl, hc, h.ok.sub _ _ hF, l, ru⟩
theorem cls_uniq {c : Str} {C1 C2 : Addr} (h1 : ClsAt K c C1) (h2 : ClsAt K c C2) : C1 = C2 := by
  have h1 : PySem.W.nsIn K mainGlobals c = some (some (.ref C1)) := h1
  have h2 : PySem.W.nsIn K mainGlobals c = some (some (.ref C2)) := h2
  rw [h1] at h2
  cases h2
  rfl
/-- the classes of these names have no attribute f of their own -/
def FldOk (K : PySem.W.Frag) (f : Str) (cs : List Str) : Prop := ∀ c ∈ cs, ∃ Cc, ClsAt K c Cc ∧ Cls K Cc ∧ NoAttr K Cc f
/-- e.f -/
def fldM (cs : List Str) (f : Str) (d : PV) : M PV := fun s => match insOf s d with
  | some (c, ks, vs) => if c ∈ cs then (match (ks.zip vs).lookup f with
    | some v => .ok v s
    | none => .stk) else .stk
  | none => .stk
theorem den_fld {cs : List Str} (F : FldOk K f cs) (h : den K Y (bnd ca (fldM cs f)) σ H Q) : tFld K (den K Y ca) f σ H Q := by
  obtain ⟨C, W, s, at', p⟩ := h
  refine ⟨C, W, s, at', (Pst.bnd p).imp fun d s1 W1 H1 l1 at1 p1 x rx => ?_⟩
  unfold fldM at p1
  split at p1
  · rename_i c ks vs e
    split at p1
    · rename_i hc
      split at p1
      · rename_i v hv
        obtain ⟨a, Cc, dx, us, rfl, h1, h2, l, ru⟩ := insOf_rep at1 rx e
        obtain ⟨C2, k1, k2, k3⟩ := F c hc
        cases cls_uniq h1 k1
        obtain ⟨v', e2, r2⟩ := zip_look ru hv
        exact ⟨a, Cc, dx, _, v', rfl, h2, k2, k3, e2, p1 W1 H1 (Vw.Le.refl _) at1 _ r2⟩
      · exact p1.elim
    · exact p1.elim
  · exact p1.elim
/-- e.f = v, e a handle -/
def fputM (cs : List Str) (f : Str) (cd cv : M PV) : M Fl := bnd cv fun v => bnd cd fun d => fun s => match d with
  | .hnd n => match s.sto[n]? with
    | some (.ins c ks vs) => if c ∈ cs ∧ ks.length < 1000 then .ok .nx { s with sto := s.sto.set n (.ins c (putKV f v ks vs).1 (putKV f v ks vs).2) } else .stk
    | _ => .stk
  | _ => .stk
theorem den_fput {cs : List Str} {cd : M PV} (F : FldOk K f cs) (h : denS K Y (fputM cs f cd cv) D σ H) : sFld K (den K Y cd) (den K Y cv) f D σ H := by
  obtain ⟨C, W, s, at', p⟩ := h
  refine ⟨C, W, s, at', (PstS.bnd p).imp fun v s1 W1 H1 l1 at1 p1 y ry => ⟨C, W1, s1, at1, (PstS.bnd p1).imp fun d s2 W2 H2 l2 at2 p2 x rx => ?_⟩⟩
  split at p2
  · rename_i n
    split at p2
    · rename_i c ks vs hs
      split at p2
      · rename_i hc
        cases rx with
        | @hnd a _ hn =>
        obtain ⟨fa, mr⟩ := at2.ok.live hn hs (fun z => nomatch z)
        cases mr with
        | @ins Cc dx m _ _ us _ hC hH hm hm1 hl ru =>
        obtain ⟨C2, k1, k2, k3⟩ := F c hc.1
        cases cls_uniq hC k1
        obtain ⟨us', e1, e2, e3⟩ := zip_put (f := f) (ry.mono l2) ru hl
        refine ⟨a, Cc, dx, _, rfl, hH, k2, k3, ?_, ?_⟩
        · rw [List.length_zip, ru.length, ← hl, Nat.min_self]
          exact hc.2
        · rw [e1]
          exact p2 W2 _ _ (Vw.Le.refl _) (at2.putG hn hs (fun z => nomatch z) (.ins hC upd_same hm hm1 e3 e2))
      · exact p2.elim
    · exact p2.elim
  · exact p2.elim
/-- a constant of the class, an int -/
def ConOk (K : PySem.W.Frag) (f : Str) (i : Int) (cs : List Str) : Prop := ∀ c ∈ cs, ∃ Cc u, ClsAt K c Cc ∧ Cls K Cc ∧ Con K Cc f (.int i) u
def conM (cs : List Str) (f : Str) (i : Int) (d : PV) : M PV := fun s => match insOf s d with
  | some (c, ks, vs) => if c ∈ cs ∧ (ks.zip vs).lookup f = none then .ok (.int i) s else .stk
  | none => .stk
theorem den_con {cs : List Str} {i : Int} (F : ConOk K f i cs) (h : den K Y (bnd ca (conM cs f i)) σ H Q) : tCon K (den K Y ca) f σ H Q := by
  obtain ⟨C, W, s, at', p⟩ := h
  refine ⟨C, W, s, at', (Pst.bnd p).imp fun d s1 W1 H1 l1 at1 p1 x rx => ?_⟩
  unfold conM at p1
  split at p1
  · rename_i c ks vs e
    split at p1
    · rename_i hc
      obtain ⟨a, Cc, dx, us, rfl, h1, h2, l, ru⟩ := insOf_rep at1 rx e
      obtain ⟨C2, u, k1, k2, k3⟩ := F c hc.1
      cases cls_uniq h1 k1
      exact ⟨a, Cc, dx, _, _, u, rfl, h2, k2, k3, zip_none ru l hc.2, p1 W1 H1 (Vw.Le.refl _) at1 _ (.int i)⟩
    · exact p1.elim
  · exact p1.elim
end
section
variable {Y : WX} {X : Cx} {e o v : Expr} {f : Str} {pos p2 : Pos} {ce co cv : M PV}
theorem xfld {cs : List Str} (F : FldOk X.K f cs) (he : PE X e (den X.K Y ce)) (hb : attributeBase e f X.env (eval e X.env) = eval e X.env := by rfl) : PE X (.Attribute e f pos) (den X.K Y (bnd ce (fldM cs f))) := pe_imp (pe_fld he hb) fun _ _ _ => den_fld F
theorem xcon {cs : List Str} {i : Int} (F : ConOk X.K f i cs) (he : PE X e (den X.K Y ce)) (hb : attributeBase e f X.env (eval e X.env) = eval e X.env := by rfl) : PE X (.Attribute e f pos) (den X.K Y (bnd ce (conM cs f i))) := pe_imp (pe_con he hb) fun _ _ _ => den_con F
theorem sfput {cs : List Str} (F : FldOk X.K f cs) (ho : PE X o (den X.K Y co)) (hv : PE X v (den X.K Y cv)) (hs : swapsWith v (some (.Attribute o f p2)) pos.line X.env = pure false := by rfl) : PS X (.Assign [.Attribute o f p2] v pos) (denS X.K Y (fputM cs f co cv)) := ps_imp (ps_fld ho hv hs) fun _ _ _ => den_fput F
end
end Dn
/-! Ob3: calls with keywords, methods, properties, classes called. -/
namespace Dn
open PySem L2 PySem.Spec PyProof.Rows
/-! ### a call's arguments, stars among them -/
section
open PySem.W PySem.Calls
variable {M : Model} {A : Around} {E : Value → Shared → Prop} {s : Shared}
theorem callWith_any {f : Value} {first : List Value} {pos : Pos} {Q : Value → Shared → Prop} {P : Heap → Prop} {args : List (Bool × Sem Value)} {kws : List (Option Str × Sem Value)}
    (hk : ∀ h, P h → ∃ k, (k = Keeper.frame ∨ k = Keeper.machine ∨ k = Keeper.boundFrame) ∧ Looks M h (keeperOf f) k)
    (h : wpAny M A (evalArgs f true args kws) (fun a s₁ => P s₁.heap ∧ wpAny M A (call f (first ++ a.pos) a.kw) Q E s₁) E s) : wpAny M A (callWith pos f first args kws) Q E s := by
  unfold callWith
  refine wpAny_bind (wpAny_holding (wpAny_mono h (fun a s₁ h₁ => ?_) fun _ _ x => x))
  refine wpAny_bind (wpAny_standAt ?_)
  obtain ⟨k, hk', L⟩ := hk _ h₁.1
  have ends : ∀ {t : Sem Value}, wpAny M A t Q E s₁ → wpAny M A (t >>= fun r => holding [r] point >>= fun _ => pure r) Q E s₁ := fun ht => by
    refine wpAny_bind (wpAny_mono ht (fun r s₂ hr => ?_) fun _ _ x => x)
    exact wpAny_bind (wpAny_holding (wpAny_point (wpAny_pure hr)))
  have mk : ∀ v : Value, wpAny M A (callMarked v f (first ++ a.pos) a.kw) Q E s₁ := fun v => by
    unfold callMarked
    exact Calls.wpAny_keep h₁.2
  generalize (args.any (·.1) || kws.any (·.1.isNone)) = star
  refine wpAny_bind (L.here ?_)
  cases star <;> rcases hk' with rfl | rfl | rfl <;> dsimp only <;> first | exact ends h₁.2 | exact ends (mk _) | exact ends (wpAny_operating h₁.2) | (split <;> first | exact ends h₁.2 | exact ends (mk _))
theorem callWith_KA {K : Frag} {env : PySem.Env} {pos : Pos} {f : Value} {first : List Value} {Q : Value → Shared → Prop} {e : Expr} {rest : List Expr} {kws : List Keyword} (hk : keepIn K f = true) (hall : (backToKw pos (keywordEach kws env)).all (·.1.isSome) = true)
    (h : wpAny M A (spliced (backTo pos (starEach (e :: rest) env))) (fun vs s₁ => wpAny M A (evalAll ((backToKw pos (keywordEach kws env)).map (·.2)))
      (fun ks s₂ => K.In s₂.heap ∧ wpAny M A (call f (first ++ vs) (((backToKw pos (keywordEach kws env)).filterMap (·.1)).zip ks)) Q E s₂) E s₁) E s)
    (he : starEach (e :: rest) env = (false, eval e env) :: starEach rest env) : wpAny M A (callWith pos f first (backTo pos (starEach (e :: rest) env)) (backToKw pos (keywordEach kws env))) Q E s :=
  callWith_any (keeps_K hk) (PyProof.Rows.evalArgs_kw2 hall h he)
end
/-- the def runs -/
def runM (m : Fn) (n : Nat) (ds : List PV) : M PV := fun s => match m n ds s.sto with
  | .ok d st' => .ok d { s with sto := st' }
  | .exc e st' => .exc e { s with sto := st' }
  | .stk => .stk
/-- positional values, then the keywords' -/
def appA (i j : Nat) (ca cb : M (List PV)) : M (List PV) := bnd ca fun a => bnd cb fun b => if a.length = i ∧ b.length = j then ret (a ++ b) else stuck
/-- what a call of that form binds -/
abbrev KB (K : PySem.W.Frag) (fd : FuncData) (ps : List Str) (n : Nat) (ks : List Str) : Prop := KBn K fd ps n ks (fun us ws => us ++ ws) (fun us ws => us ++ ws)
/-- a def and how it is called -/
structure Ent (P : Program) (w : World) (K : PySem.W.Frag) (mg : Str → Option Value) (base : Heap) (k : Nat) (g : Addr) (np n : Nat) (ks : List Str) (m : Fn) : Prop where
  ex : ∃ fd ps, ps.length = np ∧ FnG P w K mg base (L2.CX P w) k g fd ps (spM K np m) ∧ KB K fd ps n ks
  len : ∀ n ds st, m n ds st ≠ .stk → ds.length = np
section
variable {Y : WX} {K : PySem.W.Frag} {C : Ctx} {W W' : Vw} {σ : L2.St} {H : Hp} {s : S} {Q : VK} {np n i j : Nat} {m : Fn} {ca cb : M (List PV)} {ds : List PV} {vs : List V}
theorem sp_run (hl : ∀ n ds st, m n ds st ≠ .stk → ds.length = np) (a : At K (C.wi Y) W s σ H) (r : Reps K W vs ds) (p : Pst K (C.wi Y) W σ (runM m n ds s) (fun d _ W' H' => ∀ v, Rep K W' v d → Q v H')) : spM K np m vs H Q (WE Y σ) := by
  unfold runM at p
  have len : ∀ {x : RR}, m n ds s.sto = x → x ≠ .stk → vs.length = np := fun {x} e z => by rw [r.length]; exact hl _ _ _ (by rw [e]; exact z)
  cases e : m n ds s.sto with
  | exc x st' =>
    simp only [e] at p
    refine ⟨len e (fun z => nomatch z), n, W, s.sto, ds, a.ok, r, ?_⟩
    rw [e]
    exact fun W' H' cls d l ok g r => p W' σ H' cls d l (a.call l ok g) r
  | stk => simp only [e] at p; exact p.elim
  | ok d st' =>
    simp only [e] at p
    refine ⟨len e (fun z => nomatch z), n, W, s.sto, ds, a.ok, r, ?_⟩
    rw [e]
    exact fun v W' H' l ok g r => p W' H' l (a.call l ok g) v r
/-- both parts of the arguments -/
theorem den_appA {α : Type} {f : List PV → M α} {P : α → S → Vw → Hp → Prop} {QL : List V → List V → Hp → Prop} (a : At K (C.wi Y) W s σ H) (p : Pst K (C.wi Y) W σ (bnd (appA i j ca cb) f s) P)
    (go : ∀ ds es s2 W2 H2, W.Le W2 → At K (C.wi Y) W2 s2 σ H2 → Pst K (C.wi Y) W2 σ (f (ds ++ es) s2) P → ∀ us ws, Reps K W2 us ds → Reps K W2 ws es → us.length = i → ws.length = j → QL us ws H2) :
    denA K Y ca σ H (fun us H1 => denA K Y cb σ H1 (fun ws H2 => QL us ws H2)) := by
  have p0 := Pst.bnd p
  unfold appA at p0
  refine ⟨C, W, s, a, (Pst.bnd p0).imp fun ds s1 W1 H1 l1 a1 p1 us ru => ⟨C, W1, s1, a1, (Pst.bnd p1).imp fun es s2 W2 H2 l2 a2 p2 ws rw' => ?_⟩⟩
  by_cases hc : ds.length = i ∧ es.length = j
  · rw [if_pos hc] at p2
    have p3 := p2 W2 H2 (Vw.Le.refl _) a2
    exact go ds es s2 W2 H2 (l1.trans l2) a2 p3 us ws (ru.mono l2) rw' (ru.length.trans hc.1) (rw'.length.trans hc.2)
  · rw [if_neg hc] at p2
    exact p2.elim
end
/-! ### f(e, .., k = v, ..) -/
section
variable {Y : WX} {X : Cx} {k : Nat} {f g C : Addr} {fd : FuncData} {ps ks : List Str} {sp : Sp} {x m : Str} {p pos apos : Pos} {e o : Expr} {es : List Expr} {kws : List Keyword} {ta : TE} {t tk : TA} {np n i : Nat} {mf : Fn} {ca cb : M (List PV)} {co : M PV}
def tCallG (X : Cx) (Y : WX) (n : Nat) (ks : List Str) (sp : Sp) (t tk : TA) : TE := fun σ H Q => t σ H fun vs H1 => tk σ H1 fun zs H2 => vs.length = n ∧ zs.length = ks.length ∧ sp (vs ++ zs) H2 Q (WE Y σ)
theorem pe_callKG (F : FnG X.prog X.w X.K X.mg X.base (L2.CX X.prog X.w) k f fd ps sp) (hgd : X.A.guards = some []) (hr : Room k X.A) (tY : Takes X Y) (hg : Gl X x) (hm : X.mg x = some (.ref f)) (hk : PySem.W.keepIn X.K (.ref f) = true) (hb : KB X.K fd ps n ks)
    (ha : PA X (e :: es) t) (hkw : PK X kws tk) (hall : (backToKw pos (keywordEach kws X.env)).all (·.1.isSome) = true := by rfl) (hks : (backToKw pos (keywordEach kws X.env)).filterMap (·.1) = ks := by rfl)
    (hdb : (x == ("__debug__" : Str)) = false := by decide) (he : starEach (e :: es) X.env = (false, eval e X.env) :: starEach es X.env := by rfl) :
    PE X (.Call (.Name x p) (e :: es) kws pos) (tCallG X Y n ks sp t tk) := by
  refine ⟨fun pins s σ H Q I h => wpAny_Call_Name_kw (ld_glob I hg hm ?_ hdb)⟩
  refine callWith_KA hk hall (thn (ha.run pos pins s σ H _ I h) ?_) he
  rintro us s1 ⟨vs, H1, I1, r, q⟩
  refine thn (hkw.run pos pins s1 σ H1 _ I1 q) ?_
  rintro ws s2 ⟨zs, H2, I2, rz, l1, l2, q2⟩
  rw [hks]
  exact ⟨I2.kIn, run_fnG F hgd hr (passAt tY σ) I2 (hb.to s2 us ws I2.kIn (r.length.symm.trans l1) (rz.length.symm.trans l2)) (hb.rel r rz) q2⟩
/-- o.m(e, .., k = v, ..), the class asked for its def -/
def tMethG (X : Cx) (Y : WX) (k : Nat) (m : Str) (np n : Nat) (ks : List Str) (ta : TE) (t tk : TA) : TE := fun σ H Q => ta σ H fun x H1 => ∃ a C dx fs g mf, x = .ref a ∧ H1 a = some (.ins C dx fs) ∧ fs.lookup m = none ∧ Cls X.K C ∧ Meth X.K C m g ∧ Ent X.prog X.w X.K X.mg X.base k g np (n + 1) ks mf ∧
  t σ H1 fun vs H2 => tk σ H2 fun zs H3 => vs.length = n ∧ zs.length = ks.length ∧ spM X.K np mf (x :: (vs ++ zs)) H3 Q (WE Y σ)
theorem pe_methKG {pl : Sem Bool} (he : PE X o ta) (hgd : X.A.guards = some []) (hr : Room k X.A) (tY : Takes X Y) (ha : PA X (e :: es) t) (hkw : PK X kws tk) (hall : (backToKw pos (keywordEach kws X.env)).all (·.1.isSome) = true := by rfl) (hks : (backToKw pos (keywordEach kws X.env)).filterMap (·.1) = ks := by rfl)
    (hst : starEach (e :: es) X.env = (false, eval e X.env) :: starEach es X.env := by rfl)
    (ht : eval (.Call (.Attribute o m apos) (e :: es) kws pos) X.env = (do
      let ov ← eval o X.env
      standAt apos.atName
      let (f, first) ← holding [ov] (getMethod ov m pl)
      callWith pos f first (backTo pos (starEach (e :: es) X.env)) (backToKw pos (keywordEach kws X.env))) := by rfl) :
    PE X (.Call (.Attribute o m apos) (e :: es) kws pos) (tMethG X Y k m np n ks ta t tk) := by
  refine ⟨fun pins s σ H Q I h => ?_⟩
  refine PySem.W.methodCall_KW (pl := pl) (thn (he.run pins s σ H _ I h) ?_) ht
  rintro u s1 ⟨x, H1, I1, rx, a, C, dx, fs, g, mf, ex, ea, l, c, hm, F, q⟩
  subst ex
  obtain rfl : u = Value.ref a := rx
  obtain ⟨fd, ps, hnp, G, hb⟩ := F.ex
  refine getmeth_ok I1 ea c hm l ?_
  refine callWith_KA (first := [.ref a]) hm.kp hall (thn (ha.run pos pins s1 σ H1 _ I1 q) ?_) hst
  rintro us s2 ⟨vs, H2, I2, r, q2⟩
  refine thn (hkw.run pos pins s2 σ H2 _ I2 q2) ?_
  rintro ws s3 ⟨zs, H3, I3, rz, l1, l2, q3⟩
  rw [hks]
  have ln : (Value.ref a :: us).length = n + 1 := by rw [List.length_cons, ← r.length, l1]
  have r' : Vals (V.ref a :: vs) (Value.ref a :: us) := .cons rfl r
  exact ⟨I3.kIn, run_fnG G hgd hr (passAt tY σ) I3 (hb.to s3 (Value.ref a :: us) ws I3.kIn ln (rz.length.symm.trans l2)) (hb.rel r' rz) q3⟩
end
/-! ### in short -/
/-- the classes' defs of that name: each with its class's name, and how it is called -/
structure TabOk (P : Program) (w : World) (K : PySem.W.Frag) (mg : Str → Option Value) (base : Heap) (k : Nat) (m : Str) (np n : Nat) (ks : List Str) (tab : List (Str × Fn)) : Prop where
  ok : ∀ c mf, tab.lookup c = some mf → ∃ C g, ClsAt K c C ∧ Cls K C ∧ Meth K C m g ∧ Ent P w K mg base k g np n ks mf
/-- o.m(..) -/
def methM (tab : List (Str × Fn)) (n : Nat) (m : Str) (co : M PV) (r : M (List PV)) : M PV := bnd co fun d s => match insOf s d with
  | some (c, ks, vs) => if (ks.zip vs).lookup m = none then (match tab.lookup c with
    | some f => bnd r (fun ds => runM f n (d :: ds)) s
    | none => .stk) else .stk
  | none => .stk
section
variable {Y : WX} {X : Cx} {k : Nat} {ks : List Str} {m x : Str} {np n i : Nat} {ca cb : M (List PV)} {co : M PV} {tab : List (Str × Fn)} {σ : L2.St} {H : Hp} {Q : VK} {mf : Fn}
theorem den_callK (hl : ∀ n ds st, mf n ds st ≠ .stk → ds.length = np) (h : den X.K Y (callM mf n (appA i ks.length ca cb)) σ H Q) : tCallG X Y i ks (spM X.K np mf) (denA X.K Y ca) (denA X.K Y cb) σ H Q := by
  obtain ⟨C, W, s, at', p⟩ := h
  refine den_appA at' (f := fun ds s => runM mf n ds s) p fun ds es s2 W2 H2 l2 a2 p2 us ws r1 r2 l1 l2' => ?_
  exact ⟨l1, l2', sp_run hl a2 (r1.append r2) p2⟩
theorem den_meth (T : TabOk X.prog X.w X.K X.mg X.base k m np (i + 1) ks tab) (h : den X.K Y (methM tab n m co (appA i ks.length ca cb)) σ H Q) : tMethG X Y k m np i ks (den X.K Y co) (denA X.K Y ca) (denA X.K Y cb) σ H Q := by
  obtain ⟨C, W, s, at', p⟩ := h
  refine ⟨C, W, s, at', (Pst.bnd p).imp fun d s1 W1 H1 l1 at1 p1 x rx => ?_⟩
  split at p1
  · rename_i c kk vv e
    split at p1
    · rename_i hno
      split at p1
      · rename_i mf hmf
        obtain ⟨a, Cc, dx, us, rfl, h1, h2, l, ru⟩ := insOf_rep at1 rx e
        obtain ⟨C2, g, k1, k2, k3, F⟩ := T.ok c mf hmf
        cases cls_uniq h1 k1
        refine ⟨a, _, dx, _, g, mf, rfl, h2, zip_none ru l hno, k2, k3, F, ?_⟩
        refine den_appA at1 (f := fun ds s => runM mf n (d :: ds) s) p1 fun ds es s2 W2 H2 l2 a2 p2 us ws r1 r2 l1 l2' => ?_
        exact ⟨l1, l2', sp_run F.len a2 (.cons (rx.mono l2) (r1.append r2)) p2⟩
      · exact p1.elim
    · exact p1.elim
  · exact p1.elim
end
end Dn
/-! Ob4: classes called, properties, instances called; the rules in short. -/
namespace Dn
open PySem L2 PySem.Spec PyProof.Rows
/-! ### C(e, .., k = v, ..) -/
theorem guards_under {A : Around} {C : Addr} {us : List Value} {kw : List (Str × Value)} (h : A.guards = some []) : (A.under (.builtin "type.__call__" ⟨.ref C :: us, kw⟩)).guards = some [] := by
  first | exact h | simpa [Around.under, Code.weight, Code.isCreation, Code.isGuard, Code.isCaller, Code.frames, Code.isFrame, guardIds] using h
section
variable {Y : WX} {X : Cx} {k : Nat} {f g C : Addr} {fd : FuncData} {ps ks : List Str} {sp : Sp} {x m : Str} {p pos apos : Pos} {e o : Expr} {es : List Expr} {kws : List Keyword} {ta : TE} {t tk : TA} {np n i : Nat} {mf : Fn} {ca cb : M (List PV)} {co : M PV} {σ : L2.St} {H : Hp} {Q : VK}
def tMakeG (X : Cx) (Y : WX) (C : Addr) (n : Nat) (ks : List Str) (np : Nat) (mf : Fn) (t tk : TA) : TE := fun σ H Q => t σ H fun vs H1 => tk σ H1 fun zs H2 => vs.length = n ∧ zs.length = ks.length ∧
  ∀ x dx, H2 x = none → H2 dx = none → dx ≠ x → spM X.K np mf (.ref x :: (vs ++ zs)) (upd (upd H2 dx (.own x)) x (.ins C dx [])) (fun v H3 => v = .non ∧ Q (.ref x) H3) (WE Y σ)
theorem run_makeG {pins : List (Addr × Obj)} {s : Shared} {us ws : List Value} {vs zs : List V} (M : Mk X.K C f) (F : Ent X.prog X.w X.K X.mg X.base k f np (n + 1) ks mf) (hgd : X.A.guards = some []) (hr : Room (k + 1) X.A) (tY : Takes X Y)
    (I : Inv X pins σ H s) (r : Vals vs us) (rz : Vals zs ws) (l1 : vs.length = n) (l2 : zs.length = ks.length)
    (h : ∀ x dx, H x = none → H dx = none → dx ≠ x → spM X.K np mf (.ref x :: (vs ++ zs)) (upd (upd H dx (.own x)) x (.ins C dx [])) (fun v H3 => v = .non ∧ Q (.ref x) H3) (WE Y σ)) :
    wpAny (model X.prog X.w) X.A (call (.ref C) us (ks.zip ws)) (EP X pins σ Q) X.xe s := by
  obtain ⟨fd, ps, hnp, G, hb⟩ := F.ex
  have n0 : H s.heap.objs.size = none := I.hok.fresh (Nat.le_refl _)
  have n1 : H (s.heap.objs.size + 1) = none := I.hok.fresh (Nat.le_succ _)
  have want := h (s.heap.objs.size + 1) s.heap.objs.size n1 n0 (Nat.ne_of_lt (Nat.lt_succ_self _))
  have J := Inv.made (C := C) I
  have rS : Vals (V.ref (s.heap.objs.size + 1) :: vs) (Value.ref (s.heap.objs.size + 1) :: us) := .cons rfl r
  have ln : (Value.ref (s.heap.objs.size + 1) :: us).length = n + 1 := by rw [List.length_cons, ← r.length, l1]
  have bd := hb.to _ (Value.ref (s.heap.objs.size + 1) :: us) ws J.kIn ln (rz.length.symm.trans l2)
  have go := G.run _ X.stack _ _ ⟨Value.ref (s.heap.objs.size + 1) :: us, ks.zip ws⟩ _ _ _ _ (guards_under hgd) (hr.make C us (ks.zip ws)) (J.env0.make C us (ks.zip ws)) bd (hb.rel rS rz) want
  refine wpAny_call (make_map (f := f) I.kIn M.makes M.init (beq_iff_eq.mp M.fn) ?_)
  refine codeAny_mono go fun res s' hq => ?_
  match res, hq with
  | .error e, hq => exact passAt tY σ pins _ _ e s' J hq
  | .ok (.ret u), hq =>
    obtain ⟨v, H', J', rv, ev, q'⟩ := J.after hq
    subst ev
    exact ⟨rv, V.ref (s.heap.objs.size + 1), H', J', rfl, q'⟩
  | .ok .next, hq => exact False.elim hq
  | .ok .brk, hq => exact False.elim hq
  | .ok .cont, hq => exact False.elim hq
theorem pe_makeG (M : Mk X.K C f) (F : Ent X.prog X.w X.K X.mg X.base k f np (n + 1) ks mf) (hgd : X.A.guards = some []) (hr : Room (k + 1) X.A) (tY : Takes X Y) (hg : Gl X x) (hm : X.mg x = some (.ref C)) (ha : PA X (e :: es) t) (hkw : PK X kws tk)
    (hall : (backToKw pos (keywordEach kws X.env)).all (·.1.isSome) = true := by rfl) (hks : (backToKw pos (keywordEach kws X.env)).filterMap (·.1) = ks := by rfl) (hdb : (x == ("__debug__" : Str)) = false := by decide)
    (he : starEach (e :: es) X.env = (false, eval e X.env) :: starEach es X.env := by rfl) :
    PE X (.Call (.Name x p) (e :: es) kws pos) (tMakeG X Y C n ks np mf t tk) := by
  refine ⟨fun pins s σ H Q I h => wpAny_Call_Name_kw (ld_glob I hg hm ?_ hdb)⟩
  refine callWith_KA M.kp hall (thn (ha.run pos pins s σ H _ I h) ?_) he
  rintro us s1 ⟨vs, H1, I1, r, q⟩
  refine thn (hkw.run pos pins s1 σ H1 _ I1 q) ?_
  rintro ws s2 ⟨zs, H2, I2, rz, l1, l2, q2⟩
  rw [hks]
  exact ⟨I2.kIn, run_makeG M F hgd hr tY I2 r rz l1 l2 q2⟩
end
theorem At.hs_le {K : PySem.W.Frag} {C : Ctx} {W : Vw} {s : S} {σ : L2.St} {H : Hp} (h : At K C W s σ H) : C.hs0.length ≤ W.hs.length := by
  rcases Nat.lt_or_ge W.hs.length C.hs0.length with z | z
  · have := h.pre W.hs.length _ (List.getElem?_eq_getElem z)
    rw [List.getElem?_eq_none (Nat.le_refl _)] at this
    cases this
  · exact z
/-! ### properties -/
structure PropE (P : Program) (w : World) (K : PySem.W.Frag) (mg : Str → Option Value) (base : Heap) (k : Nat) (f : Str) (C : Addr) (mf : Fn) : Prop where
  ex : ∃ p g, PropOf K C f p g ∧ Ent P w K mg base k g 1 1 [] mf
def tPropG (X : Cx) (k : Nat) (f : Str) (ta : TE) : TE := fun σ H Q => ta σ H fun x H1 => ∃ a C dx fs mf, x = .ref a ∧ H1 a = some (.ins C dx fs) ∧ Cls X.K C ∧ PropE X.prog X.w X.K X.mg X.base k f C mf ∧ spM X.K 1 mf [.ref a] H1 Q (fun _ _ _ => False)
theorem pe_propG {X : Cx} {k : Nat} {f : Str} {e : Expr} {pos : Pos} {ta : TE} (he : PE X e ta) (hgd : X.A.guards = some []) (hr : Room (k + 1) X.A) (hab : attributeBase e f X.env (eval e X.env) = eval e X.env := by rfl) : PE X (.Attribute e f pos) (tPropG X k f ta) := by
  refine ⟨fun pins s σ H Q I h => attr_of hab (thn (he.run pins s σ H _ I h) ?_)⟩
  rintro u s1 ⟨x, H1, I1, rx, a, C, dx, fs, mf, ex, ea, c, P, q⟩
  subst ex
  obtain rfl : u = Value.ref a := rx
  obtain ⟨p, g, hp, F⟩ := P.ex
  obtain ⟨fd, ps, hnp, G, hb⟩ := F.ex
  obtain ⟨mA, O, _⟩ := ins_get I1.hok ea
  obtain ⟨od, J, _⟩ := O.look
  obtain ⟨rest, hrec⟩ := hp.rec_
  have I2 := I1.tok (s1.toks + 1)
  have hc : (PySem.W.clsIn X.K C).isSome = true := by
    obtain ⟨cd, hc, _⟩ := PySem.W.any_some c.hd
    rw [hc]
    rfl
  have bd := hb.to { s1 with toks := s1.toks + 1 } [.ref a] [] I2.kIn rfl rfl
  have go := G.run X.A.in1 X.stack { s1 with toks := s1.toks + 1 } H1 _ _ _ Q (fun _ _ _ => False) hgd hr.in1 I2.env0.in1 bd (hb.rel (vs := [V.ref a]) (zs := []) (.cons rfl .nil) .nil) q
  have gp := PySem.W.plainGet_of (c.get f)
  refine PySem.W.get_bind I1.kIn J gp.1 (PySem.W.findObj_data hc hp.at_ hp.get hp.tak) gp.2 (wpAny_call (PySem.W.prop_get (s := { s1 with toks := s1.toks + 1 }) I1.kIn hrec (codeAny_mono go fun res s' hq => ?_)))
  match res, hq with
  | .error er, hq =>
    obtain ⟨_, _, _, _, _, _, _, _, _, _, _, _, w⟩ := hq
    exact w.elim
  | .ok (.ret u), hq =>
    obtain ⟨v, H', I3, rv, q3⟩ := I2.after hq
    show wpAny _ _ (handedOut u) _ _ _
    rw [PySem.W.handedOut_of (handed_of rv)]
    exact wpAny_pure ⟨v, H', I3, rv, q3⟩
  | .ok .next, hq => exact False.elim hq
  | .ok .brk, hq => exact False.elim hq
  | .ok .cont, hq => exact False.elim hq
structure PropTab (P : Program) (w : World) (K : PySem.W.Frag) (mg : Str → Option Value) (base : Heap) (k : Nat) (f : Str) (tab : List (Str × Fn)) : Prop where
  ok : ∀ c mf, tab.lookup c = some mf → ∃ C, ClsAt K c C ∧ Cls K C ∧ PropE P w K mg base k f C mf
/-- e.f, a property: it lets nothing out -/
def propM (tab : List (Str × Fn)) (n : Nat) (d : PV) : M PV := fun s => match insOf s d with
  | some (c, _, _) => (match tab.lookup c with
    | some f => (match f n [d] s.sto with
      | .ok r st' => .ok r { s with sto := st' }
      | _ => .stk)
    | none => .stk)
  | none => .stk
theorem den_prop {X : Cx} {Y : WX} {k : Nat} {f : Str} {tab : List (Str × Fn)} {n : Nat} {co : M PV} {σ : L2.St} {H : Hp} {Q : VK} (T : PropTab X.prog X.w X.K X.mg X.base k f tab) (h : den X.K Y (bnd co (propM tab n)) σ H Q) : tPropG X k f (den X.K Y co) σ H Q := by
  obtain ⟨C, W, s, at', p⟩ := h
  refine ⟨C, W, s, at', (Pst.bnd p).imp fun d s1 W1 H1 l1 at1 p1 x rx => ?_⟩
  unfold propM at p1
  split at p1
  · rename_i c kk vv e
    split at p1
    · rename_i mf hmf
      obtain ⟨a, Cc, dx, us, rfl, h1, h2, l, ru⟩ := insOf_rep at1 rx e
      obtain ⟨C2, k1, k2, P⟩ := T.ok c mf hmf
      cases cls_uniq h1 k1
      split at p1
      · rename_i r st' er
        refine ⟨a, _, dx, _, mf, rfl, h2, k2, P, rfl, n, W1, s1.sto, [d], at1.ok, .cons rx .nil, ?_⟩
        rw [er]
        exact fun v W' H' l ok g rv => p1 W' H' l (at1.call l ok g) v rv
      · exact p1.elim
    · exact p1.elim
  · exact p1.elim
end Dn
/-! Ob5: the rules of Ob3, Ob4 in short; keywords; stars; types; chains. -/
namespace Dn
open PySem L2 PySem.Spec PyProof.Rows
theorem FnG.up {P : Program} {w : World} {K : PySem.W.Frag} {mg : Str → Option Value} {base : Heap} {j k : Nat} {g : Addr} {np n : Nat} {ks : List Str} {m : Fn} (F : Ent P w K mg base j g np n ks m) (h : j ≤ k) : Ent P w K mg base k g np n ks m := by
  obtain ⟨fd, ps, e, G, b⟩ := F.ex
  exact ⟨⟨fd, ps, e, G.mono h, b⟩, F.len⟩
/-- a def called by name with keywords -/
structure DfK (P : Program) (w : World) (K : PySem.W.Frag) (mg : Str → Option Value) (base : Heap) (k : Nat) (x : Str) (np n : Nat) (ks : List Str) (m : Fn) : Prop where
  ex : ∃ f, mg x = some (.ref f) ∧ PySem.W.keepIn K (.ref f) = true ∧ Ent P w K mg base k f np n ks m
/-- a class called -/
structure MkK (P : Program) (w : World) (K : PySem.W.Frag) (mg : Str → Option Value) (base : Heap) (k : Nat) (c : Str) (np n : Nat) (ks : List Str) (m : Fn) : Prop where
  ex : ∃ C f, ClsAt K c C ∧ mg c = some (.ref C) ∧ Mk K C f ∧ Ent P w K mg base k f np (n + 1) ks m
section
variable {Y : WX} {X : Cx} {k j : Nat} {ks : List Str} {x m c : Str} {p pos apos kp : Pos} {e o : Expr} {es : List Expr} {kws : List Keyword} {np n i : Nat} {mf : Fn} {ca cb : M (List PV)} {co ce : M PV} {tab : List (Str × Fn)}
theorem akN : PK X [] (denA X.K Y argN) := ⟨fun pos pins s σ H Q I h => pk_nil.run pos pins s σ H Q I (den_argN h)⟩
theorem akC {nm : Option Str} (he : PE X e (den X.K Y ce)) (hr : PK X kws (denA X.K Y cb)) : PK X (⟨nm, e, kp⟩ :: kws) (denA X.K Y (argC ce cb)) := ⟨fun pos pins s σ H Q I h => (pk_cons he hr).run pos pins s σ H Q I (den_argC h)⟩
theorem xcallK (n : Nat) (D : DfK X.prog X.w X.K X.mg X.base j x np i ks mf) (hgd : X.A.guards = some []) (hr : Room k X.A) (tY : Takes X Y) (hjk : j ≤ k) (ha : PA X (e :: es) (denA X.K Y ca)) (hkw : PK X kws (denA X.K Y cb)) (hg : Gl X x := by rfl) (hall : (backToKw pos (keywordEach kws X.env)).all (·.1.isSome) = true := by rfl) (hks : (backToKw pos (keywordEach kws X.env)).filterMap (·.1) = ks := by rfl)
    (hdb : (x == ("__debug__" : Str)) = false := by decide) (he : starEach (e :: es) X.env = (false, eval e X.env) :: starEach es X.env := by rfl) : PE X (.Call (.Name x p) (e :: es) kws pos) (den X.K Y (callM mf n (appA i ks.length ca cb))) := by
  obtain ⟨f, hm, hk, F⟩ := D.ex
  obtain ⟨fd, ps, _, G, b⟩ := F.ex
  exact pe_imp (pe_callKG G hgd (hr.mono hjk) tY hg hm hk b ha hkw hall hks hdb he) fun _ _ _ => den_callK F.len
theorem xmeth {pl : Sem Bool} (n : Nat) (T : TabOk X.prog X.w X.K X.mg X.base j m np (i + 1) ks tab) (hgd : X.A.guards = some []) (hr : Room k X.A) (tY : Takes X Y) (hjk : j ≤ k) (ho : PE X o (den X.K Y co)) (ha : PA X (e :: es) (denA X.K Y ca)) (hkw : PK X kws (denA X.K Y cb)) (hall : (backToKw pos (keywordEach kws X.env)).all (·.1.isSome) = true := by rfl) (hks : (backToKw pos (keywordEach kws X.env)).filterMap (·.1) = ks := by rfl)
    (hst : starEach (e :: es) X.env = (false, eval e X.env) :: starEach es X.env := by rfl)
    (ht : eval (.Call (.Attribute o m apos) (e :: es) kws pos) X.env = (do
      let ov ← eval o X.env
      standAt apos.atName
      let (f, first) ← holding [ov] (getMethod ov m pl)
      callWith pos f first (backTo pos (starEach (e :: es) X.env)) (backToKw pos (keywordEach kws X.env))) := by rfl) :
    PE X (.Call (.Attribute o m apos) (e :: es) kws pos) (den X.K Y (methM tab n m co (appA i ks.length ca cb))) := pe_imp (pe_methKG ho hgd (hr.mono hjk) tY ha hkw hall hks hst ht) fun _ _ _ => den_meth T
theorem xprop (n : Nat) (T : PropTab X.prog X.w X.K X.mg X.base j m tab) (hgd : X.A.guards = some []) (hr : Room k X.A) (hjk : j + 1 ≤ k) (he : PE X e (den X.K Y ce)) (hab : attributeBase e m X.env (eval e X.env) = eval e X.env := by rfl) : PE X (.Attribute e m pos) (den X.K Y (bnd ce (propM tab n))) := pe_imp (pe_propG he hgd (hr.mono hjk) hab) fun _ _ _ => den_prop T
end
end Dn
/-! Ob6: stars, types, chains, a module's constants. -/
namespace Dn
open PySem L2 StX PySem.Spec PyProof.Rows
section
variable {Y : WX} {K : PySem.W.Frag} {C : Ctx} {W W' : Vw} {σ : L2.St} {H : Hp} {s : S} {Q : VK} {ca cb cc : M PV} {cr : M (List PV)}
/-- min, max of two ints -/
def maxP : PV → PV → Option PV
  | .int i, .int j => some (.int (if j > i then j else i))
  | _, _ => none
def minP : PV → PV → Option PV
  | .int i, .int j => some (.int (if j < i then j else i))
  | _, _ => none
abbrev opMax (a b : PV) : M PV := lft (maxP a b)
abbrev opMin (a b : PV) : M PV := lft (minP a b)
theorem bin_max : Bin (fun x y H Q => ∃ i j, [x, y] = [.int i, .int j] ∧ Q (.int (if j > i then j else i)) H) K opMax := by
  intro C W s σ H v w a b Q at' ra rb p
  obtain ⟨d, e, q⟩ := p.lft'
  have q0 := q W H (Vw.Le.refl W) at'
  unfold maxP at e
  split at e
  · cases e
    cases ra.int
    cases rb.int
    exact ⟨_, _, rfl, q0 _ (.int _)⟩
  · cases e
theorem bin_min : Bin (fun x y H Q => ∃ i j, [x, y] = [.int i, .int j] ∧ Q (.int (if j < i then j else i)) H) K opMin := by
  intro C W s σ H v w a b Q at' ra rb p
  obtain ⟨d, e, q⟩ := p.lft'
  have q0 := q W H (Vw.Le.refl W) at'
  unfold minP at e
  split at e
  · cases e
    cases ra.int
    cases rb.int
    exact ⟨_, _, rfl, q0 _ (.int _)⟩
  · cases e
/-- a <= b <= c -/
def chainM (f g : PV → PV → M PV) (ca cb cc : M PV) : M PV := bnd ca fun a => bnd cb fun b => bnd (f a b) fun d => match d with
  | .bl true => bnd cc fun c => g b c
  | .bl false => ret (.bl false)
  | _ => stuck
theorem den_chain {f g : PV → PV → M PV} {r r' : V → V → Hp → VK → Prop} (hf : Bin r K f) (hg : Bin r' K g) (h : den K Y (chainM f g ca cb cc) σ H Q) : tChain r r' (den K Y ca) (den K Y cb) (den K Y cc) σ H Q := by
  obtain ⟨C, W, s, at', p⟩ := h
  refine ⟨C, W, s, at', (Pst.bnd p).imp fun a s1 W1 H1 l1 at1 p1 v rv => ⟨C, W1, s1, at1, (Pst.bnd p1).imp fun b s2 W2 H2 l2 at2 p2 w rw' => ?_⟩⟩
  refine hf _ W2 s2 σ H2 v w a b _ at2 (.rep (rv.mono l2)) (.rep rw') ((Pst.bnd p2).imp fun d s3 W3 H3 l3 at3 p3 z rz => ?_)
  cases d <;> try exact p3.elim
  rename_i bb
  cases rz
  refine ⟨bb, rfl, ?_⟩
  cases bb with
  | true =>
    rw [if_pos rfl]
    exact ⟨C, W3, s3, at3, (Pst.bnd p3).imp fun c s4 W4 H4 l4 at4 p4 y ry => hg _ W4 s4 σ H4 w y b c _ at4 (.rep (rw'.mono (l3.trans l4))) (.rep ry) p4⟩
  | false =>
    rw [if_neg (fun z => nomatch z)]
    exact p3 W3 H3 (Vw.Le.refl _) at3 _ (.bl false)
/-- the name of a value's built-in type -/
def tyP : PV → Option String
  | .non => some "NoneType"
  | .bl _ => some "bool"
  | .int _ => some "int"
  | .str _ => some "str"
  | .tup _ => some "tuple"
  | .lst _ => some "list"
  | .scr _ => some "list"
  | .dic _ => some "dict"
  | .dct _ _ => some "dict"
  | _ => none
def isiP (nm : String) (d : PV) : Option PV := (tyP d).bind fun t => (kitB t nm).map PV.bl
abbrev fIsi (nm : String) (d : PV) : M PV := lft (isiP nm d)
theorem ty_rep {d : PV} {v : V} {t : String} (a : At K C W s σ H) (r : Rep K W v d) (e : tyP d = some t) : TyX K H v (.type t) := by
  cases r with
  | non => cases e; exact .base .non
  | bl b => cases e; exact .base (.bl b)
  | int i => cases e; exact .base (.int i)
  | str x => cases e; exact .base (.str x)
  | tup hq _ =>
    cases e
    rcases same_t a.ok.sub hq with (h | ⟨o, h⟩) | ⟨o, its, n, h1, h2, h3, _⟩
    · exact .base (.tup h)
    · exact .fTuple h
    · exact .kTuple h1 h2
  | lst hq _ => cases e; exact .base (.lst (a.ok.sub _ _ hq))
  | scr hq =>
    cases e
    rcases a.ok.sub.seq hq with (h | ⟨o, h⟩) | ⟨o, its, n, h1, h2, _⟩
    · exact .base (.lst h)
    · exact .base (.frz h)
    · exact .kList h1 h2
  | hnd _ =>
    have e : (none : Option String) = some t := e
    cases e
  | obj =>
    have e : (none : Option String) = some t := e
    cases e
  | exn =>
    have e : (none : Option String) = some t := e
    cases e
  | dic h => cases e; exact .base (.dK (a.ok.sub _ _ h))
  | dct h => cases e; exact .fDict (a.ok.sub _ _ h)
  | kt _ =>
    have e : (none : Option String) = some t := e
    cases e
theorem den_isi {nm : String} (h : den K Y (bnd ca (fIsi nm)) σ H Q) : tCB (rIsi K) (tCons (den K Y ca) (tCons (tC (.ty nm)) tNil)) σ H Q := by
  obtain ⟨C, W, s, at', p⟩ := h
  refine ⟨C, W, s, at', (Pst.bnd p).imp fun d s1 W1 H1 l1 at1 p1 v rv => ?_⟩
  obtain ⟨z, e, q⟩ := p1.lft'
  have q0 := q W1 H1 (Vw.Le.refl W1) at1
  unfold isiP at e
  obtain ⟨t, e1, e2⟩ := Option.bind_eq_some_iff.mp e
  obtain ⟨b, e3, e4⟩ := Option.map_eq_some_iff.mp e2
  subst e4
  exact ⟨v, .ty nm, .type t, .type nm, b, rfl, .ty nm, ty_rep at1 rv e1, kit_ty e3, q0 _ (.bl b)⟩
end
section
variable {Y : WX} {X : Cx} {a b c e : Expr} {es : List Expr} {ca cb cc : M PV} {cr : M (List PV)} {pos p px : Pos}
theorem xmax2 (hc : X.calm = true) (hm : X.mg "max" = none) (ha : PE X a (den X.K Y ca)) (hb : PE X b (den X.K Y cb)) (hg : Gl X "max" := by rfl) (h1 : starEach [a, b] X.env = (false, eval a X.env) :: starEach [b] X.env := by rfl) (h2 : starEach [b] X.env = (false, eval b X.env) :: starEach [] X.env := by rfl) (hpl : (backTo pos (starEach [b] X.env)).any (·.1) = false := by rfl) :
    PE X (.Call (.Name "max" px) [a, b] [] pos) (den X.K Y (bin ca cb opMax)) := pe_imp (pe_callB (call_max2 hc) hg hm PyProof.Rows.Boot.«max» (pa_cons ha (pa_cons hb pa_nil h2) h1) (by decide) (by decide) h1 hpl) fun _ _ _ h => den_bin bin_max h
theorem xmin2 (hc : X.calm = true) (hm : X.mg "min" = none) (ha : PE X a (den X.K Y ca)) (hb : PE X b (den X.K Y cb)) (hg : Gl X "min" := by rfl) (h1 : starEach [a, b] X.env = (false, eval a X.env) :: starEach [b] X.env := by rfl) (h2 : starEach [b] X.env = (false, eval b X.env) :: starEach [] X.env := by rfl) (hpl : (backTo pos (starEach [b] X.env)).any (·.1) = false := by rfl) :
    PE X (.Call (.Name "min" px) [a, b] [] pos) (den X.K Y (bin ca cb opMin)) := pe_imp (pe_callB (call_min2 hc) hg hm PyProof.Rows.Boot.«min» (pa_cons ha (pa_cons hb pa_nil h2) h1) (by decide) (by decide) h1 hpl) fun _ _ _ h => den_bin bin_min h
theorem xchain {op op' : CmpOp} {f g : PV → PV → M PV} (hf : CmpOk X op f) (hg : CmpOk X op' g) (ha : PE X a (den X.K Y ca)) (hb : PE X b (den X.K Y cb)) (hc : PE X c (den X.K Y cc)) (hm : lastMarks [op, op'] [b, c] = false := by with_unfolding_all rfl) : PE X (.Compare a [op, op'] [b, c] pos) (den X.K Y (chainM f g ca cb cc)) := by
  obtain ⟨r, h1, h2⟩ := hf.ok
  obtain ⟨r', h3, h4⟩ := hg.ok
  exact pe_imp (pe_chain h1 h3 ha hb hc hm) fun _ _ _ => den_chain h2 h4
theorem xisi {x : Str} {nm : String} (hm : X.mg "isinstance" = none) (hx : X.mg x = none) (hv : bootBuiltins x = some (.type nm)) (ha : PE X a (den X.K Y ca)) (hn : x ≠ "__name__" := by decide) (hd : (x == ("__debug__" : Str)) = false := by decide) (hg : Gl X "isinstance" := by rfl) (hgx : Gl X x := by rfl)
    (h1 : starEach [a, .Name x p] X.env = (false, eval a X.env) :: starEach [.Name x p] X.env := by rfl) (h2 : starEach [.Name x p] X.env = (false, eval (.Name x p) X.env) :: starEach [] X.env := by rfl) (hpl : (backTo pos (starEach [.Name x p] X.env)).any (·.1) = false := by rfl) :
    PE X (.Call (.Name "isinstance" px) [a, .Name x p] [] pos) (den X.K Y (bnd ca (fIsi nm))) := pe_imp (pe_callB call_isi hg hm PyProof.Rows.Boot.«isinstance» (pa_cons ha (pa_cons (pe_bltn hgx hx hv (show RelV (.ty nm) (.type nm) from rfl) hn hd) pa_nil h2) h1) (by decide) (by decide) h1 hpl) fun _ _ _ => den_isi
/-- a module's constant: an int, a text -/
theorem xgI {x : Str} {i : Int} {t : Tok} (hm : X.mg x = some (.int i t)) (hg : Gl X x := by rfl) (hd : (x == ("__debug__" : Str)) = false := by decide) : PE X (.Name x pos) (den X.K Y (ret (.int i))) := pe_imp (pe_glob hg hm (show RelV (.int i) (.int i t) from ⟨t, rfl⟩) hd) fun σ H Q h => by
  obtain ⟨C, W, s, at', p⟩ := h
  exact p W H (Vw.Le.refl _) at' _ (.int i)
theorem xgS {x y : Str} {t : Tok} (hm : X.mg x = some (.str y t)) (hg : Gl X x := by rfl) (hd : (x == ("__debug__" : Str)) = false := by decide) : PE X (.Name x pos) (den X.K Y (ret (.str y))) := pe_imp (pe_glob hg hm (show RelV (.str y) (.str y t) from ⟨t, rfl⟩) hd) fun σ H Q h => by
  obtain ⟨C, W, s, at', p⟩ := h
  exact p W H (Vw.Le.refl _) at' _ (.str y)
end
end Dn
/-! Ob7: super(): defs of a class that ask the class above, in their first statement. -/
namespace Dn
open PySem L2 ClX PySem.Spec PyProof.Rows
theorem run_codeG {X : Cx} {CX : CXT} {k : Nat} {f : Addr} {fd : FuncData} {ps : List Str} {sp : Sp} {E : XK} {pins : List (Addr × Obj)} {σ : L2.St} {H : Hp} {s : Shared} {Q : VK} {us zs : List Value} {kw : List (Str × Value)} {vs : List V} (F : FnG X.prog X.w X.K X.mg X.base CX k f fd ps sp) (hgd : X.A.guards = some []) (hr : Room k X.A) (hx : PassesAt CX X σ E)
    (I : Inv X pins σ H s) (hb : BindsTo s fd ⟨us, kw⟩ (ps.zip zs)) (r : Vals vs zs) (h : sp vs H Q E) : codeAny (model X.prog X.w) X.A (.call (.ref f) ⟨us, kw⟩) (fun r s' => match r with
      | .ok (.ret v) => EP X pins σ Q v s'
      | .ok _ => False
      | .error e => X.xe e s') s := by
  refine codeAny_mono (F.run X.A X.stack s H ⟨us, kw⟩ zs vs Q E hgd hr I.env0 hb r h) fun res s' hq => ?_
  match res, hq with
  | .error e, hq => exact hx pins H s e s' I hq
  | .ok (.ret u), hq => exact I.after hq
  | .ok .next, hq => exact False.elim hq
  | .ok .brk, hq => exact False.elim hq
  | .ok .cont, hq => exact False.elim hq
/-- where super() stands: the def at f of the class at D, self its first parameter -/
structure SupX (X : Cx) (slf : Str) (D : Addr) : Prop where
  ks : X.env.kindOf "super" = some .globalImplicit
  kc : X.env.kindOf "__class__" = some .free
  sl : X.env.kindOf slf = some .local
  n0 : X.N[0]? = some slf
  sup : X.mg "super" = none
  fn : ∃ (f : Addr) (oc : Value) (od : Option Addr) (fd : FuncData) (osl : Array (Option Value)) (ar : Arg), X.env.func = some f ∧ X.K.lookup f = some ⟨oc, od, .func fd, osl⟩ ∧ (fd.params.posonlyargs ++ fd.params.args).head? = some ar ∧ ar.arg = slf
  code : ∃ (cda : Addr) (oc : Value) (od : Option Addr) (vs : Array Value) (osl : Array (Option Value)) (file : Str) (tf : Tok), X.env.code = .ref cda ∧ X.K.lookup cda = some ⟨oc, od, .fields vs, osl⟩ ∧ vs[2]? = some (.str file tf) ∧ ((X.prog.main.file : Str) == file) = true
  top : (X.prog.main.scope.names.lookup ("super" : Str)).isSome = false
  cell : ∃ (cc : Addr) (oc : Value) (od : Option Addr) (osl : Array (Option Value)), X.env.cells.lookup ("__class__" : Str) = some cc ∧ X.K.lookup cc = some ⟨oc, od, .cell (some (.ref D)), osl⟩
  cls : ∃ cd, PySem.W.clsIn X.K D = some cd
/-- what an instance's class must have: above the class at D, the name is the def at g -/
structure SupC (K : PySem.W.Frag) (C D : Addr) (m : Str) (g : Addr) : Prop where
  sub : PySem.W.mroIn K C (.ref D) = some true
  at_ : PySem.W.ks_superIn K C D m = some (some (.ref g))
  ty : PySem.W.typeIn K (.ref g) = some (.type "function")
  fi : PySem.W.fnIn K g = true
  opq : PySem.W.nsIn K cStatics "thirdparty.any" = some none
section
variable {Y : WX} {X : Cx} {k np n : Nat} {ks : List Str} {slf m : Str} {D : Addr} {body : List Stmt} {p0 p1 apos pos : Pos} {e : Expr} {es : List Expr} {kws : List Keyword} {t tk : TA} {pins : List (Addr × Obj)} {σ : L2.St} {H : Hp} {s : Shared} {Q : VK}
/-- the object that super() gives, then its method: a bound one, pinned -/
theorem sup_base {a C dx : Addr} {fs : List (Str × V)} {whole : Sem Value} {R : Value → Shared → Prop} (S : SupX X slf D) (I : Inv X pins σ H s) (h0 : σ[0]? = some (some (.ref a))) (ha : H a = some (.ins C dx fs)) (hsub : PySem.W.mroIn X.K C (.ref D) = some true) (hm : (m == ("__class__" : Str)) = false)
    (h : ∀ so h', (∀ b o, s.heap.get? b = some o → h'.get? b = some o) → h'.get? so = some (PySem.W.ks_superObj D a C) → R (.ref so) { s with heap := h' }) :
    _root_.PySem.wpAt (model X.prog X.w) X.A (.func body X.env) (attributeBase (.Call (.Name "super" p0) [] [] p1) m X.env whole) R X.xe s := by
  obtain ⟨f, oc, od, fd, osl, ar, e1, e2, e3, e4⟩ := S.fn
  obtain ⟨cda, occ, odc, vs, oslc, file, tf, c1, c2, c3, c4⟩ := S.code
  obtain ⟨cc, oce, ode, osle, d1, d2⟩ := S.cell
  obtain ⟨cd, hD⟩ := S.cls
  have KX := I.kIn
  obtain ⟨oD, hD1, hD2⟩ : ∃ oD, s.heap.get? D = some oD ∧ oD.data = .cls cd := by
    unfold PySem.W.clsIn at hD
    split at hD
    · rename_i q1 q2 q3 q4 ho
      cases hD
      exact ⟨_, KX _ _ ho, rfl⟩
    · cases hD
  obtain ⟨mA, O, _⟩ := ins_get I.hok ha
  obtain ⟨oi, J, _⟩ := O.look
  obtain ⟨ml, hn, hlk⟩ := id I.loc
  obtain ⟨u, ru, hu⟩ := hlk 0 slf _ S.n0 h0 (.inl S.sl)
  obtain rfl : u = Value.ref a := ru
  have hv : ml slf = some (.ref a) := by
    rcases hu with ⟨_, hu⟩ | ⟨z, _⟩
    · exact hu
    · rw [S.sl] at z
      rcases z with z | z <;> cases z
  obtain ⟨mb, b1, b2⟩ := I.mod.blt
  refine PySem.ks_wpAt_super_base (env := X.env) S.ks S.kc hm e1 (KX _ _ e2) rfl e3 c1 (KX _ _ c2) rfl c3 c4 S.top ?_
  refine PySem.W.ks_loadName_global I.ok.kind S.ks (Calls.loadGlobal_builtin (by rw [I.ok.glob]; exact I.mod.glob.keeps I.bk) S.sup (by rw [I.ok.blt]; exact b1.keeps I.bk) ((b2 "super" (by decide)).trans PyProof.Rows.Boot.«super») ⟨rfl, ?_⟩)
  refine wpAny_loadName_free I.ok.kind S.kc d1 ⟨_, KX _ _ d2, rfl⟩ ?_
  rw [e4]
  refine wpAny_loadName_local I.ok.kind S.sl hn hv ?_
  obtain ⟨hh, gg, dd, tt, os⟩ := s
  refine PySem.ks_wpAny_isType_cls hD1 hD2 ⟨rfl, ?_⟩
  refine PySem.ks_wpAny_call_super hD1 hD2 J.at_ J.cls (fun c z => ?_) (PySem.W.looks_mroIn KX hsub) (fun h' q1 q2 => ?_)
  · have := J.no
    unfold PySem.W.notCls at this
    rw [z] at this
    exact Bool.noConfusion this
  · exact h _ h' q2 q1
/-- super().m(e, .., k = v, ..) -/
def tSupG (X : Cx) (Y : WX) (k : Nat) (D : Addr) (m : Str) (np n : Nat) (ks : List Str) (t tk : TA) : TE := fun σ H Q => ∃ a C dx fs g mf, σ[0]? = some (some (.ref a)) ∧ H a = some (.ins C dx fs) ∧ SupC X.K C D m g ∧ Ent X.prog X.w X.K X.mg X.base k g np (n + 1) ks mf ∧
  t σ H fun vs H1 => tk σ H1 fun zs H2 => vs.length = n ∧ zs.length = ks.length ∧ spM X.K np mf (.ref a :: (vs ++ zs)) H2 Q (WE Y σ)
/-- an expression of such a def's first statement -/
def PEA (X : Cx) (body : List Stmt) (e : Expr) (t : TE) : Prop := ∀ (pins : List (Addr × Obj)) (s : Shared) (σ : L2.St) (H : Hp) (Q : VK), Inv X pins σ H s → t σ H Q → _root_.PySem.wpAt (model X.prog X.w) X.A (.func body X.env) (eval e X.env) (EP X pins σ Q) X.xe s
theorem sup_meth {so a C dx : Addr} {fs : List (Str × V)} {g : Addr} {pl : Sem Bool} {R : Value × List Value → Shared → Prop} (I : Inv X pins σ H s) (hso : s.heap.get? so = some (PySem.W.ks_superObj D a C)) (ha : H a = some (.ins C dx fs)) (c : SupC X.K C D m g) (hm : (m == ("__class__" : Str)) = false)
    (h : ∀ s', Inv X ((s.heap.objs.size, PySem.W.methodObj (.ref g) (.ref a)) :: pins) σ H s' → R (.ref s.heap.objs.size, []) s') : wpAny (model X.prog X.w) X.A (getMethod (.ref so) m pl) R X.xe s := by
  have KX := I.kIn
  obtain ⟨mA, O, _⟩ := ins_get I.hok ha
  obtain ⟨oi, J, _⟩ := O.look
  have at_ := c.at_
  obtain ⟨hh, gg, dd, tt, os⟩ := s
  cases hc : PySem.W.clsIn X.K C with
  | none => unfold PySem.W.ks_superIn at at_; rw [hc] at at_; cases at_
  | some cd =>
    unfold PySem.W.ks_superIn at at_
    rw [hc] at at_
    obtain ⟨og, hog, hogc⟩ : ∃ og, hh.get? g = some og ∧ og.cls = .type "function" := by
      have ty : (X.K.lookup g).map (·.cls) = some (.type "function") := c.ty
      cases z : X.K.lookup g with
      | none => rw [z] at ty; cases ty
      | some og => rw [z] at ty; exact ⟨og, KX _ _ z, Option.some.inj ty⟩
    refine PySem.ks_wpAny_getMethod_super hso (PySem.W.looks_opaque KX c.opq) (l₀ := cd.mro) ?_ rfl KX at_ hog hogc (PySem.W.ks_ne KX J hc) hm ?_
    · exact fun A Q E s k q => wpAny_bind ((PySem.W.looks_clsIn KX hc) A _ E s k (wpAny_pure q))
    · exact h _ (met_new I)
theorem pea_sup {pl : Sem Bool} (S : SupX X slf D) (hgd : X.A.guards = some []) (hr : Room k X.A) (tY : Takes X Y) (ha : PA X (e :: es) t) (hkw : PK X kws tk) (hm : (m == ("__class__" : Str)) = false := by decide) (hall : (backToKw pos (keywordEach kws X.env)).all (·.1.isSome) = true := by rfl) (hks : (backToKw pos (keywordEach kws X.env)).filterMap (·.1) = ks := by rfl)
    (hst : starEach (e :: es) X.env = (false, eval e X.env) :: starEach es X.env := by rfl)
    (ht : eval (.Call (.Attribute (.Call (.Name "super" p0) [] [] p1) m apos) (e :: es) kws pos) X.env = (do
      let ov ← attributeBase (.Call (.Name "super" p0) [] [] p1) m X.env (eval (.Call (.Name "super" p0) [] [] p1) X.env)
      standAt apos.atName
      let (f, first) ← holding [ov] (getMethod ov m pl)
      callWith pos f first (backTo pos (starEach (e :: es) X.env)) (backToKw pos (keywordEach kws X.env))) := by rfl) :
    PEA X body (.Call (.Attribute (.Call (.Name "super" p0) [] [] p1) m apos) (e :: es) kws pos) (tSupG X Y k D m np n ks t tk) := by
  intro pins s σ H Q I h
  obtain ⟨a, C, dx, fs, g, mf, h0, hH, c, F, q⟩ := h
  obtain ⟨fd, ps, hnp, G, hb⟩ := F.ex
  rw [ht]
  refine _root_.PySem.wpAt_bind (sup_base S I h0 hH c.sub hm fun so h' keep hso => ?_)
  have I1 : Inv X pins σ H { s with heap := h' } := I.kept (t' := s.toks) keep
  refine _root_.PySem.wpAt_of_wpAny (wpAny_bind (wpAny_standAt (wpAny_bind (wpAny_holding (sup_meth I1 hso hH c hm fun s2 I2 => ?_)))))
  refine callWith_any (P := fun h => PySem.W.MethP X.K _ g (.ref a) h) (first := []) (fun h z => PySem.W.keeps_M c.fi h z) (PyProof.Rows.evalArgs_kw2 hall (thn (ha.run pos _ s2 σ H _ I2 q) ?_) hst)
  rintro us s3 ⟨vs, H3, I3, r, q3⟩
  refine thn (hkw.run pos _ s3 σ H3 _ I3 q3) ?_
  rintro ws s4 ⟨zs, H4, I4, rz, l1, l2, q4⟩
  rw [hks]
  refine ⟨⟨pin_at I4, I4.kIn⟩, ?_⟩
  have ln : (Value.ref a :: us).length = n + 1 := by rw [List.length_cons, ← r.length, l1]
  have rr : Vals (V.ref a :: vs) (Value.ref a :: us) := .cons rfl r
  have go := run_codeG G hgd hr (passAt tY σ) I4 (hb.to s4 (Value.ref a :: us) ws I4.kIn ln (rz.length.symm.trans l2)) (hb.rel rr rz) q4
  refine wpAny_mono (wpAny_call (PySem.W.method_call (pin_at I4) go)) (fun _ _ y => unpinE y) fun _ _ y => y
end
end Dn
/-! Ob8: defs whose first statement asks super(). -/
namespace Dn
open PySem L2 ClX NdefX PySem.Spec PyProof.Rows
section
variable {Y : WX} {X : Cx} {k np n i : Nat} {ks : List Str} {slf m x : Str} {D : Addr} {body rest : List Stmt} {p0 p1 apos pos px : Pos} {e l r : Expr} {es : List Expr} {kws : List Keyword} {t tk : TA} {te ta tb : TE} {st : Stmt} {ts us : TS} {op : Operator} {ro : R2}
/-- a statement of such a def, the first one -/
def PSA (X : Cx) (body : List Stmt) (st : Stmt) (t : TS) : Prop := ∀ (pins : List (Addr × Obj)) (s : Shared) (σ : L2.St) (H : Hp) (D : Ends), Inv X pins σ H s → t D σ H → _root_.PySem.wpAt (model X.prog X.w) X.A (.func body X.env) (exec st X.env) (SP X pins D) X.xe s
theorem psa_ret (he : PEA X body e te) : PSA X body (.Return (some e) pos) (tRet te) := fun pins s σ H D I h =>
  PySem.ks_wpAt_Return_some (PySem.ks_wpAt_mono (he pins s σ H _ I h) (fun v s1 ⟨xx, H1, I1, r1, q1⟩ => ⟨xx, σ, H1, I1, r1, q1⟩) fun _ _ z => z)
theorem psa_expr (he : PEA X body e te) (hi : interactive X.env = false := by rfl) (hs : swapsWith e none pos.line X.env = pure false := by rfl) : PSA X body (.Expr e pos) (tDrop te) := fun pins s σ H D I h =>
  PySem.ks_wpAt_Expr_any (PySem.ks_wpAt_mono (he pins s σ H _ I h) (fun v s1 ⟨xx, H1, I1, r1, q1⟩ => ⟨σ, H1, I1, q1⟩) fun _ _ z => z) hi hs
def PSSA (X : Cx) (body blk : List Stmt) (t : TS) : Prop := ∀ (pins : List (Addr × Obj)) (s : Shared) (σ : L2.St) (H : Hp) (D : Ends), Inv X pins σ H s → t D σ H → _root_.PySem.wpAt (model X.prog X.w) X.A (.func body X.env) (execs blk X.env) (SP X pins D) X.xe s
theorem pssa_cons (h1 : PSA X body st ts) (h2 : PSs X rest us) : PSSA X body (st :: rest) (tSeq ts us) := fun pins s σ H D I h => by
  refine PySem.ks_wpAt_execs_cons (PySem.ks_wpAt_mono (h1 pins s σ H { D with nx := us D } I h) (fun f s1 q => ?_) fun _ _ z => z)
  cases f with
  | next =>
    obtain ⟨σ', H', I', q⟩ := q
    exact _root_.PySem.wpAt_of_wpAny (h2.run pins s1 σ' H' D I' q)
  | ret v => exact q
  | brk => exact q
  | cont => exact q
end
/-! ### the def -/
/-- the names of such a def: its parameters, then __class__ -/
abbrev nfOf (x qual : Str) (st : Stmt) (cc cda : Addr) : NF := ⟨x, qual, defArgs st, defBody st, defScope st, [("__class__", cc)], cda⟩
/-- a def that stands in the module with the cell of its class -/
structure FunS (K : PySem.W.Frag) (x qual : Str) (st : Stmt) (f : Addr) (fd : FuncData) (cc cda : Addr) : Prop where
  ex : ∃ (oc : Value) (od : Option Addr) (dV kV doc pm : Value) (an : Option Addr) (ct : Value) (osl : Array (Option Value)),
    fd = PySem.W.fnX x qual (defArgs st) (defBody st) (defScope st) [("__class__", cc)] dV kV doc pm an (.ref cda) ct ∧ K.lookup f = some ⟨oc, od, .func fd, osl⟩ ∧ PySem.W.codeIn K (.ref cda) qual = true
  cell : ∃ (oc : Value) (od : Option Addr) (v : Option Value) (osl : Array (Option Value)), K.lookup cc = some ⟨oc, od, .cell v, osl⟩
abbrev supX (P : Program) (w : World) (K : PySem.W.Frag) (mg : Str → Option Value) (base : Heap) (N : List Str) (x qual : Str) (st : Stmt) (cc cda f : Addr) (A : Around) (outer : List PySem.Env) (s : Shared) (H : Hp) (E : XK) : Cx := ncx (L2.CX P w) P w K mg base N (nfOf x qual st cc cda) f A outer s H E
theorem fn_ofS {P : Program} {w : World} {K : PySem.W.Frag} {mg : Str → Option Value} {base : Heap} {k : Nat} {f cc cda : Addr} {fd : FuncData} {x qual : Str} {st : Stmt} {N ps : List Str} {sp : Sp}
    (F : FunS K x qual st f fd cc cda) (S : NScope N ps ["__class__"] (defScope st)) (len : ∀ vs H Q E, sp vs H Q E → vs.length = ps.length)
    (hbody : ∀ (A : Around) (outer : List PySem.Env) (s : Shared) (H : Hp) (vs : List V) (Q : VK) (E : XK), (supX P w K mg base N x qual st cc cda f A outer s H E).A.guards = some [] → Room k (supX P w K mg base N x qual st cc cda f A outer s H E).A → sp vs H Q E →
      ∃ t, PSSA (supX P w K mg base N x qual st cc cda f A outer s H E) (defBody st) (defBody st) t ∧ t { nx := fun _ H' => Q .non H', rt := Q } (L2.start N vs) H) :
    FnG P w K mg base (L2.CX P w) (k + 1) f fd ps sp := by
  refine ⟨len, fun A outer s H args us vs Q E hgd hr e0 hb r hsp => ?_⟩
  have hl := len _ _ _ _ hsp
  obtain ⟨oc, od, dV, kV, doc, pm, an, ct, osl, rfl, lk, hcd⟩ := F.ex
  obtain ⟨occ, odc, vc, oslc, lkc⟩ := F.cell
  have KX : K.In s.heap := e0.mod.kin.keeps fun b o e => (e0.bs b o e).1
  have lim : s.heap.NoLimit := e0.mod.nolimit.keeps fun b o e => (e0.bs b o e).1
  have hcc : H cc = none := (e0.bs cc _ (e0.mod.kin _ _ lkc)).2
  refine PySem.ks_codeAny_call_defAt (binds := ps.zip us) hr.depth (KX _ _ lk) rfl lim (PySem.W.codeRec_of KX hcd) rfl hb S.nocell (fun ⟨n, _⟩ hy => S.par n (List.of_mem_zip hy).1) (fun h₁ hns kp => ?_) S.co S.gen S.kind
  have CA : CellsAt [("__class__", cc)] ["__class__"] [none] s.heap H := by
    have one : ∀ {y : Str} {c : Addr}, ([(("__class__" : Str), cc)] : List (Str × Addr)).lookup y = some c → y = "__class__" ∧ c = cc := fun {y c} z => by
      rw [List.lookup] at z
      split at z
      · rename_i hy
        exact ⟨beq_iff_eq.mp hy, (Option.some.inj z).symm⟩
      · cases z
    refine ⟨rfl, fun y c z => ?_, fun y z c h1 h2 => (one h1).1.trans (one h2).1.symm, fun i y hi => ?_⟩
    · obtain ⟨_, rfl⟩ := one z
      exact ⟨hcc, vc, _, KX _ _ lkc, rfl⟩
    · cases i with
      | zero =>
        cases hi
        exact ⟨cc, by simp [List.lookup], fun v z => by cases z⟩
      | succ i => cases hi
  have I : Inv (supX P w K mg base N x qual st cc cda f A outer s H E) [] (startF N vs [none]) H { s with heap := h₁, toks := s.toks + (ps.zip us).length } := inv_startN S hr.hd e0 hl r CA hns kp
  have e2 : startF N vs [none] = L2.start N vs := by
    have hpl : ps.length + 1 ≤ N.length := by
      have q := congrArg List.length S.pre
      rw [List.length_take, List.length_append] at q
      have q : min (ps.length + 1) N.length = ps.length + 1 := q
      omega
    unfold startF L2.start
    have e3 : N.length - vs.length = (N.length - vs.length - [(none : Option V)].length) + 1 := by
      show N.length - vs.length = N.length - vs.length - 1 + 1
      omega
    rw [e3, List.replicate_succ]
    rfl
  rw [e2] at I
  obtain ⟨t, ht, hq⟩ := hbody A outer s H vs Q E hgd (hr.deeper _) hsp
  have fin : ∀ {σ' : L2.St} {H' : Hp} {v : V} {u : Value} {s' : Shared}, Inv (supX P w K mg base N x qual st cc cda f A outer s H E) [] σ' H' s' → RelV v u → Q v H' → CE outer P w H s Q u s' := fun {σ' H' v u s'} J rv q => ⟨v, H', J.os, J.bare, J.base, J.hok, rv, q⟩
  refine PySem.ks_wpAt_mono (ht [] _ (L2.start N vs) H _ I hq) (fun fl s' hs => ?_) fun e s' hs => hs
  match fl, hs with
  | .ret u, ⟨v, σ', H', J, rv, q⟩ => exact fin J rv q
  | .next, ⟨σ', H', J, q⟩ => exact fin (v := V.non) (u := Value.none) J rfl q
  | .brk, ⟨_, _, _, q⟩ => exact False.elim q
  | .cont, ⟨_, _, _, q⟩ => exact False.elim q
end Dn
/-! Ob9: super() in short; instances called. -/
namespace Dn
open PySem L2 ClX NdefX PySem.Spec PyProof.Rows
/-- what super().m is, by the class of self -/
structure SupTab (P : Program) (w : World) (K : PySem.W.Frag) (mg : Str → Option Value) (base : Heap) (k : Nat) (D : Addr) (m : Str) (np n : Nat) (ks : List Str) (tab : List (Str × Fn)) : Prop where
  ok : ∀ c mf, tab.lookup c = some mf → ∃ C g, ClsAt K c C ∧ SupC K C D m g ∧ Ent P w K mg base k g np n ks mf
def supM (tab : List (Str × Fn)) (n : Nat) (r : M (List PV)) : M PV := fun (s : S) => match s.env[0]? with
  | some (some (SV.val d)) => (match insOf s d with
    | some (c, _, _) => (match tab.lookup c with
      | some f => bnd r (fun ds => runM f n (d :: ds)) s
      | none => .stk)
    | none => .stk)
  | _ => .stk
section
variable {Y : WX} {X : Cx} {k j np n i : Nat} {ks : List Str} {slf m x : Str} {D : Addr} {body rest : List Stmt} {p0 p1 apos pos px : Pos} {e l r : Expr} {es : List Expr} {kws : List Keyword} {ca cb : M (List PV)} {ce cl cr : M PV} {tab : List (Str × Fn)} {st : Stmt} {σ : L2.St} {H : Hp} {Q : VK} {fa fb : M Fl}
theorem den_sup (T : SupTab X.prog X.w X.K X.mg X.base k D m np (i + 1) ks tab) (h : den X.K Y (supM tab n (appA i ks.length ca cb)) σ H Q) : tSupG X Y k D m np i ks (denA X.K Y ca) (denA X.K Y cb) σ H Q := by
  obtain ⟨C, W, s, at', p⟩ := h
  unfold supM at p
  split at p
  · rename_i d he
    obtain ⟨v, hv, rv⟩ := at'.val 0 d he
    split at p
    · rename_i c kk vv e
      split at p
      · rename_i mf hmf
        obtain ⟨a, Cc, dx, us, rfl, h1, h2, ll, ru⟩ := insOf_rep at' rv e
        obtain ⟨C2, g, k1, k2, F⟩ := T.ok c mf hmf
        cases cls_uniq h1 k1
        refine ⟨a, _, dx, _, g, mf, hv, h2, k2, F, ?_⟩
        refine den_appA at' (f := fun ds s => runM mf n (d :: ds) s) p fun ds es s2 W2 H2 l2 a2 p2 us ws r1 r2 l1 l2' => ?_
        exact ⟨l1, l2', sp_run F.len a2 (.cons (rv.mono l2) (r1.append r2)) p2⟩
      · exact p.elim
    · exact p.elim
  · exact p.elim
theorem pea_imp {te te' : TE} (h : PEA X body e te) (f : ∀ σ H Q, te' σ H Q → te σ H Q) : PEA X body e te' := fun pins s σ H Q I q => h pins s σ H Q I (f σ H Q q)
theorem psa_imp {t t' : TS} (h : PSA X body st t) (f : ∀ D σ H, t' D σ H → t D σ H) : PSA X body st t' := fun pins s σ H D I q => h pins s σ H D I (f D σ H q)
theorem asup {pl : Sem Bool} (n : Nat) (T : SupTab X.prog X.w X.K X.mg X.base j D m np (i + 1) ks tab) (S : SupX X slf D) (hgd : X.A.guards = some []) (hr : Room k X.A) (tY : Takes X Y) (hjk : j ≤ k) (ha : PA X (e :: es) (denA X.K Y ca)) (hkw : PK X kws (denA X.K Y cb)) (hm : (m == ("__class__" : Str)) = false := by decide) (hall : (backToKw pos (keywordEach kws X.env)).all (·.1.isSome) = true := by rfl) (hks : (backToKw pos (keywordEach kws X.env)).filterMap (·.1) = ks := by rfl)
    (hst : starEach (e :: es) X.env = (false, eval e X.env) :: starEach es X.env := by rfl)
    (ht : eval (.Call (.Attribute (.Call (.Name "super" p0) [] [] p1) m apos) (e :: es) kws pos) X.env = (do
      let ov ← attributeBase (.Call (.Name "super" p0) [] [] p1) m X.env (eval (.Call (.Name "super" p0) [] [] p1) X.env)
      standAt apos.atName
      let (f, first) ← holding [ov] (getMethod ov m pl)
      callWith pos f first (backTo pos (starEach (e :: es) X.env)) (backToKw pos (keywordEach kws X.env))) := by rfl) :
    PEA X body (.Call (.Attribute (.Call (.Name "super" p0) [] [] p1) m apos) (e :: es) kws pos) (den X.K Y (supM tab n (appA i ks.length ca cb))) := pea_imp (pea_sup S hgd (hr.mono hjk) tY ha hkw hm hall hks hst ht) fun _ _ _ => den_sup T
theorem aret (he : PEA X body e (den X.K Y ce)) : PSA X body (.Return (some e) pos) (denS X.K Y (retM ce)) := psa_imp (psa_ret he) fun _ _ _ => den_return
theorem aexpr (he : PEA X body e (den X.K Y ce)) (hi : interactive X.env = false := by rfl) (hs : swapsWith e none pos.line X.env = pure false := by rfl) : PSA X body (.Expr e pos) (denS X.K Y (dropM ce)) := psa_imp (psa_expr he hi hs) fun _ _ _ => den_drop
theorem pssa_imp {blk : List Stmt} {t t' : TS} (h : PSSA X body blk t) (f : ∀ D σ H, t' D σ H → t D σ H) : PSSA X body blk t' := fun pins s σ H D I q => h pins s σ H D I (f D σ H q)
theorem acons1 (h1 : PSA X body st (denS X.K Y fa)) (h2 : PSs X rest (denS X.K Y fb)) : PSSA X body (st :: rest) (denS X.K Y (seqM fa fb)) := pssa_imp (pssa_cons h1 h2) fun _ _ _ => den_seq
end
/-- THE RULE: such a def keeps the promise of its computation -/
theorem fn_denS {P : Program} {w : World} {K : PySem.W.Frag} {mg : Str → Option Value} {base : Heap} {k : Nat} {f cc cda : Addr} {fd : FuncData} {x qual : Str} {st : Stmt} {N ps : List Str} {body : Nat → M Fl}
    (F : FunS K x qual st f fd cc cda) (S : NScope N ps ["__class__"] (defScope st)) (hN : ps.length ≤ N.length)
    (hbody : ∀ (A : Around) (outer : List PySem.Env) (s : Shared) (H : Hp) (E : XK) (n : Nat), (supX P w K mg base N x qual st cc cda f A outer s H E).A.guards = some [] → Room k (supX P w K mg base N x qual st cc cda f A outer s H E).A →
      Takes (supX P w K mg base N x qual st cc cda f A outer s H E) (yE E) → PassesOwn (model P w) (supX P w K mg base N x qual st cc cda f A outer s H E).A (supX P w K mg base N x qual st cc cda f A outer s H E).env (supX P w K mg base N x qual st cc cda f A outer s H E).xe →
      PSSA (supX P w K mg base N x qual st cc cda f A outer s H E) (defBody st) (defBody st) (denS K (yE E) (body n))) :
    FnG P w K mg base (L2.CX P w) (k + 1) f fd ps (spM K ps.length (fnM ps.length N.length body)) := by
  refine fn_ofS F S (fun vs H Q E h => h.1) fun A outer s H vs Q E hgd hr hsp => ?_
  obtain ⟨n, h⟩ := start_den hN hsp
  exact ⟨_, hbody A outer s H E n hgd hr (takes_of rfl rfl rfl rfl) (passes_of rfl), h⟩
end Dn
/-! Ex1: own exception classes of one field, over any built-in class; raised. -/
namespace Dn
open PySem L2 PySem.Spec PyProof.Rows
/-! ### the rules -/
end Dn
/-! Ex2: raise C(e); the def __init__ of such a class; try .. except C. -/
namespace Dn
open PySem L2 PySem.Spec PyProof.Rows
/-! ### raise C(e) in a body -/
end Dn
/-! Ex3: try .. except C; instances called; constants of a class. -/
namespace Dn
open PySem L2 ClX StX PySem.Spec PyProof.Rows
section
variable {Y : WX} {K : PySem.W.Frag} {D : Ends} {σ : L2.St} {H : Hp} {tab : List (Str × Bool)} {fa fb : M Fl} {cv : Value} {C : Ctx} {W : Vw}
theorem PstS.other {Y' : WX} {r : Res S Fl} (hr : ∀ e s, r ≠ .exc e s) (p : PstS K (C.wi Y) W D r) : PstS K (C.wi Y') W D r := by
  cases r with
  | ok fl s => exact fun W' σ' H' l a => p W' σ' H' l (a.wi Y)
  | exc e s => exact absurd rfl (hr e s)
  | stk => exact p
end
section
variable {Y : WX} {X : Cx} {k j np n i : Nat} {ks : List Str} {m x f : Str} {a e o : Expr} {es : List Expr} {ca : M (List PV)} {co ce : M PV} {tab : List (Str × Fn)} {etab : List (Str × Bool)} {pos p p1 np' : Pos} {body suite : List Stmt} {b₀ : Stmt} {fa fb : M Fl} {cv : Value}
/-! ### f(e, ..), f an instance -/
/-! ### C.f, a constant of the class -/
theorem xcattr {C : Addr} {mc : Value} {c : Str} {v : Int} {u : Value} (hm : X.mg c = some (.ref C)) (r : CRead X.K C mc) (kv : CVal X.K C mc f (.int v) u) (hg : Gl X c := by rfl) (hd : (c == ("__debug__" : Str)) = false := by decide) (hb : attributeBase (.Name c p) f X.env (eval (.Name c p) X.env) = eval (.Name c p) X.env := by rfl) :
    PE X (.Attribute (.Name c p) f pos) (den X.K Y (ret (.int v))) := pe_imp (pe_cval (pe_glob hg hm (show RelV (.ref C) (.ref C) from rfl) hd) hb) fun σ H Q h => by
  obtain ⟨C0, W, s, at', p⟩ := h
  exact ⟨C, mc, .int v, u, rfl, r, kv, p W H (Vw.Le.refl _) at' _ (.int v)⟩
end
end Dn
/-! Op1: == and != of own instances; isinstance of own classes. -/
namespace Dn
open PySem L2 ClX StX PySem.Spec PyProof.Rows PySem.Calls
end Dn
/-! Op2: == and != of own instances as computations; isinstance of an own class. -/
namespace Dn
open PySem L2 ClX StX PySem.Spec PyProof.Rows PySem.Calls
/-- the built-in types that stand in values -/
abbrev blts : List String := ["NoneType", "bool", "int", "str", "tuple", "list", "dict"]
def tyS (s : S) : PV → Option String
  | .hnd n => match s.sto[n]? with
    | some (.dic _) => some "dict"
    | _ => none
  | d => tyP d
section
variable {Y : WX} {K : PySem.W.Frag} {C : Ctx} {W W' : Vw} {σ : L2.St} {H : Hp} {s : S} {Q : VK} {ca cb : M PV}
theorem tyP_in {d : PV} {t : String} (e : tyP d = some t) : t ∈ blts := by
  cases d <;> cases e <;> decide +kernel
theorem tyS_cases {d : PV} {t : String} (e : tyS s d = some t) : tyP d = some t ∨ ∃ n kvs, d = .hnd n ∧ s.sto[n]? = some (.dic kvs) ∧ t = "dict" := by
  unfold tyS at e
  split at e
  · rename_i n
    split at e
    · rename_i kvs hs
      exact .inr ⟨n, kvs, rfl, hs, (Option.some.inj e).symm⟩
    · cases e
  · exact .inl e
theorem tyS_in {d : PV} {t : String} (e : tyS s d = some t) : t ∈ blts := by
  rcases tyS_cases e with e | ⟨n, kvs, _, _, rfl⟩
  · exact tyP_in e
  · decide +kernel
theorem tyS_rep {d : PV} {v : V} {t : String} (a : At K C W s σ H) (r : Rep K W v d) (e : tyS s d = some t) : TyX K H v (.type t) := by
  rcases tyS_cases e with e | ⟨n, kvs, rfl, hs, rfl⟩
  · exact ty_rep a r e
  · cases r with
    | hnd hn =>
      cases (a.ok.live hn hs (fun z => nomatch z)).2 with
      | dic hH _ => exact .base (.dK hH)
theorem ins_ty {c : Str} {Cc a dx : Addr} {fs : List (Str × V)} (F : C8.InsC K Cc) (h : H a = some (.ins Cc dx fs)) : TyX K H (.ref a) (.ref Cc) := .base (.ins h F.cl F.ha F.hn F.htk F.hm)
/-- what isinstance against the class at D answers -/
structure IsoTab (K : PySem.W.Frag) (D : Addr) (tab : List (Str × Bool)) : Prop where
  own : ∀ c b, tab.lookup c = some b → ∃ C, ClsAt K c C ∧ C8.InsC K C ∧ PySem.W.kitOne K (.ref C) (.ref D) = some b
  blt : ∀ t ∈ blts, PySem.W.kitOne K (.type t) (.ref D) = some false
def isoM (tab : List (Str × Bool)) (d : PV) : M PV := fun s => match insOf s d with
  | some (c, _, _) => (match tab.lookup c with
    | some b => .ok (.bl b) s
    | none => .stk)
  | none => (match tyS s d with
    | some _ => .ok (.bl false) s
    | none => .stk)
theorem den_iso {D : Addr} {tab : List (Str × Bool)} (T : IsoTab K D tab) (h : den K Y (bnd ca (isoM tab)) σ H Q) : tCB (rIsi K) (tCons (den K Y ca) (tCons (tC (.ref D)) tNil)) σ H Q := by
  obtain ⟨C, W, s, at', p⟩ := h
  refine ⟨C, W, s, at', (Pst.bnd p).imp fun d s1 W1 H1 l1 at1 p1 v rv => ?_⟩
  unfold isoM at p1
  cases e : insOf s1 d with
  | some t =>
    obtain ⟨c, ks, vs⟩ := t
    simp only [e] at p1
    cases e2 : tab.lookup c with
    | none => simp only [e2] at p1; exact p1.elim
    | some b =>
      simp only [e2] at p1
      obtain ⟨a, Cc, dx, us, rfl, h1, h2, _, _⟩ := insOf_rep at1 rv e
      obtain ⟨C2, k1, k2, k3⟩ := T.own c b e2
      cases cls_uniq h1 k1
      exact ⟨.ref a, .ref D, .ref _, .ref D, b, rfl, .own D, ins_ty (c := c) k2 h2, k3, p1 W1 H1 (Vw.Le.refl _) at1 _ (.bl b)⟩
  | none =>
    simp only [e] at p1
    cases e2 : tyS s1 d with
    | none => simp only [e2] at p1; exact p1.elim
    | some t =>
      simp only [e2] at p1
      exact ⟨v, .ref D, .type t, .ref D, false, rfl, .own D, tyS_rep at1 rv e2, T.blt t (tyS_in e2), p1 W1 H1 (Vw.Le.refl _) at1 _ (.bl false)⟩
/-! ### == by an own def -/
def negR (neg : Bool) (c : M PV) : M PV := fun s => match c s with
  | .ok (.bl r) s' => .ok (.bl (r != neg)) s'
  | _ => .stk
end
section
variable {X : Cx} {k : Nat}
/-- the def of == runs, at the comparison's own level or one below -/
theorem run_eq {pins : List (Addr × Obj)} {s : Shared} {σ : L2.St} {H : Hp} {g : Addr} {mf : Fn} {x y : V} {v u : Value} {Qv : VK} {A : Around} (I : Inv X pins σ H s) (hA : A = X.A ∨ A = X.A.in1) (hgd : X.A.guards = some []) (hr : Room (k + 1) X.A)
    (F : Ent X.prog X.w X.K X.mg X.base k g 2 2 [] mf) (rx : RelV x v) (ry : RelV y u) (h : spM X.K 2 mf [x, y] H Qv (fun _ _ _ => False)) :
    wpAny (model X.prog X.w) A (call (.ref g) [v, u]) (EP X pins σ Qv) X.xe s := by
  obtain ⟨fd, ps, hnp, G, hb⟩ := F.ex
  have bd := hb.to s [v, u] [] I.kIn rfl rfl
  have rr := hb.rel (vs := [x, y]) (us := [v, u]) (zs := []) (ws := []) (.cons rx (.cons ry .nil)) .nil
  have e0 : Env0 X.prog X.w X.K X.mg X.base A X.stack s H := by
    rcases hA with rfl | rfl
    · exact I.env0
    · exact I.env0.in1
  have hg : A.guards = some [] := by
    rcases hA with rfl | rfl
    · exact hgd
    · exact hgd
  have hrm : Room k A := by
    rcases hA with rfl | rfl
    · exact hr.mono (Nat.le_succ k)
    · exact hr.in1
  have go := G.run A X.stack s H _ _ _ Qv (fun _ _ _ => False) hg hrm e0 bd rr h
  refine wpAny_call (codeAny_mono go fun res s' hq => ?_)
  match res, hq with
  | .error er, hq =>
    obtain ⟨_, _, _, _, _, _, _, _, _, _, _, _, w⟩ := hq
    exact w.elim
  | .ok (.ret u), hq => exact I.after hq
  | .ok .next, hq => exact False.elim hq
  | .ok .brk, hq => exact False.elim hq
  | .ok .cont, hq => exact False.elim hq
end
end Dn
/-! Op3: the rules in short: ==, != of own instances; isinstance. -/
namespace Dn
open PySem L2 ClX StX PySem.Spec PyProof.Rows PySem.Calls
def BinV (r : R2) (K : PySem.W.Frag) (op : PV → PV → M PV) : Prop := ∀ (C : Ctx) (W : Vw) (s : S) (σ : L2.St) (H : Hp) (v w : V) (a b : PV) (Q : VK), At K C W s σ H → Rep K W v a → Rep K W w b → Pst K C W σ (op a b s) (WantV K Q) → r v w H Q
section
variable {Y : WX} {K : PySem.W.Frag} {C : Ctx} {W W' : Vw} {σ : L2.St} {H : Hp} {s : S} {Q : VK} {ca cb : M PV}
theorem den_binV {r : R2} {op : PV → PV → M PV} (hb : BinV r K op) (h : den K Y (bin ca cb op) σ H Q) : tOp r (den K Y ca) (den K Y cb) σ H Q := by
  obtain ⟨C, W, s, at', p⟩ := h
  refine ⟨C, W, s, at', (Pst.bnd p).imp fun a s1 W1 H1 l1 at1 p1 v rv => ⟨C, W1, s1, at1, (Pst.bnd p1).imp fun b s2 W2 H2 l2 at2 p2 w rw' => ?_⟩⟩
  exact hb _ W2 s2 σ H2 v w a b Q at2 (rv.mono l2) rw' p2
/-- an own == that lets nothing out -/
theorem neg_run {mf : Fn} {n : Nat} {ds : List PV} {vs : List V} {neg : Bool} (hl : ∀ n ds st, mf n ds st ≠ .stk → ds.length = 2) (at' : At K C W s σ H) (r : Reps K W vs ds) (p : Pst K C W σ (negR neg (runM mf n ds) s) (WantV K Q)) :
    spM K 2 mf vs H (fun v H' => ∃ r, v = .bl r ∧ Q (.bl (r != neg)) H') (fun _ _ _ => False) := by
  unfold negR runM at p
  cases e : mf n ds s.sto with
  | stk => simp only [e] at p; exact p.elim
  | exc x st' => simp only [e] at p; exact p.elim
  | ok d st' =>
    simp only [e] at p
    cases d <;> try exact p.elim
    rename_i b
    refine ⟨by rw [r.length]; exact hl n ds s.sto (by rw [e]; exact fun z => nomatch z), n, W, s.sto, ds, at'.ok, r, ?_⟩
    rw [e]
    intro v W' H' l ok g rv
    cases rv
    exact ⟨b, rfl, p W' H' l (at'.call l ok g) _ (.bl _)⟩
end
section
variable {Y : WX} {X : Cx} {k j n : Nat} {a b e : Expr} {ca cb : M PV} {pos p px : Pos} {tab : List (Str × Fn)} {rel : List ((Str × Str) × Bool)}
structure CmpOkV (X : Cx) (op : CmpOp) (f : PV → PV → M PV) : Prop where
  ok : ∃ r, OpR X (compareOp op) r ∧ BinV r X.K f
theorem xcmpV {op : CmpOp} {f : PV → PV → M PV} (h : CmpOkV X op f) (ha : PE X a (den X.K Y ca)) (hb : PE X b (den X.K Y cb)) (hm : behindInMarks op b = false := by first | exact nomark _ | rfl) : PE X (.Compare a [op] [b] pos) (den X.K Y (bin ca cb f)) := by
  obtain ⟨r, h1, h2⟩ := h.ok
  exact pe_imp (pe_cmpR h1 ha hb hm) fun _ _ _ => den_binV h2
theorem tcmpV {op : CmpOp} {f : PV → PV → M PV} (h : CmpOkV X op f) (ha : PE X a (den X.K Y ca)) (hb : PE X b (den X.K Y cb)) (hm : behindInMarks op b = false := by first | exact nomark _ | rfl) : PT X (.Compare a [op] [b] pos) (denT X.K Y (asB (bin ca cb f))) := by
  obtain ⟨r, h1, h2⟩ := h.ok
  exact pt_imp (pt_cmpR h1 ha hb hm) fun _ _ _ q => den_binV h2 (den_asB q)
theorem xiso {c : Str} {D : Addr} {itab : List (Str × Bool)} (T : IsoTab X.K D itab) (hc : X.mg c = some (.ref D)) (hm : X.mg "isinstance" = none) (ha : PE X a (den X.K Y ca)) (hg : Gl X "isinstance" := by rfl) (hgc : Gl X c := by rfl) (hd : (c == ("__debug__" : Str)) = false := by decide)
    (h1 : starEach [a, .Name c p] X.env = (false, eval a X.env) :: starEach [.Name c p] X.env := by rfl) (h2 : starEach [.Name c p] X.env = (false, eval (.Name c p) X.env) :: starEach [] X.env := by rfl) (hpl : (backTo pos (starEach [.Name c p] X.env)).any (·.1) = false := by rfl) :
    PE X (.Call (.Name "isinstance" px) [a, .Name c p] [] pos) (den X.K Y (bnd ca (isoM itab))) :=
  pe_imp (pe_callB call_isi hg hm PyProof.Rows.Boot.«isinstance» (pa_cons ha (pa_cons (pe_glob hgc hc (show L2.RelV (.ref D) (.ref D) from rfl) hd) pa_nil h2) h1) (by decide) (by decide) h1 hpl) fun _ _ _ => den_iso T
end
end Dn
/-! Op4: str, f-strings, truth, items stored. -/
namespace Dn
open PySem L2 ClX StX PySem.Spec PyProof.Rows PySem.Calls
/-- the truth of a value -/
def truP : PV → Option Bool
  | .non => some false
  | .bl b => some b
  | .int i => some (i != 0)
  | .str y => if y.length ≤ sizeLine then some ((y.length : Int) != 0) else none
  | .tup xs => some (!xs.isEmpty)
  | .lst xs => some (!xs.isEmpty)
  | _ => none
def truT (c : M PV) : M Bool := bnd c fun d => lft (truP d)
section
variable {Y : WX} {K : PySem.W.Frag} {C : Ctx} {W W' : Vw} {σ : L2.St} {H : Hp} {s : S} {Q : VK} {ca cb cv : M PV} {i : Nat}
theorem tru_rep {d : PV} {v : V} {b : Bool} (at' : At K C W s σ H) (r : Rep K W v d) (e : truP d = some b) : TruV K v H b := by
  cases r with
  | non => cases e; rfl
  | bl b => cases e; rfl
  | int i => cases e; rfl
  | str y =>
    have e : (if y.length ≤ sizeLine then some ((y.length : Int) != 0) else none) = some b := e
    split at e
    · rename_i h
      cases e
      exact ⟨h, rfl⟩
    · cases e
  | tup hq rs =>
    cases e
    refine .inr (.inl ⟨_, same_t at'.ok.sub hq, ?_⟩)
    cases rs <;> rfl
  | lst hq rs =>
    cases e
    refine .inl ⟨_, SqL.of (at'.ok.sub _ _ hq), ?_⟩
    cases rs <;> rfl
  | scr _ => have e : (none : Option Bool) = some b := e; cases e
  | hnd _ => have e : (none : Option Bool) = some b := e; cases e
  | obj => have e : (none : Option Bool) = some b := e; cases e
  | exn => have e : (none : Option Bool) = some b := e; cases e
  | dic _ => have e : (none : Option Bool) = some b := e; cases e
  | dct _ => have e : (none : Option Bool) = some b := e; cases e
  | kt _ => have e : (none : Option Bool) = some b := e; cases e
theorem den_truT {QT : Bool → Hp → Prop} (h : denT K Y (truT ca) σ H QT) : den K Y ca σ H fun x H' => ∃ k, TruV K x H' k ∧ QT k H' := by
  obtain ⟨C, W, s, at', p⟩ := h
  refine ⟨C, W, s, at', (Pst.bnd p).imp fun d s1 W1 H1 l1 at1 p1 v rv => ?_⟩
  obtain ⟨b, e, q⟩ := p1.lft'
  exact ⟨b, tru_rep at1 rv e, q W1 H1 (Vw.Le.refl _) at1⟩
end
section
variable {Y : WX} {X : Cx} {k i : Nat} {a b e : Expr} {es : List Expr} {ca cb ce cv ck : M PV} {cs : List (M PV)} {pos p px : Pos}
theorem ttru (ha : PE X a (den X.K Y ca)) (he : ∀ whole, isTrue a X.env whole = (do let v ← whole; standAt a.pos; holding [v] (truthy v)) := by intro _; rfl) : PT X a (denT X.K Y (truT ca)) := pt_imp (pt_truth ha he) fun _ _ _ => den_truT
end
end Dn
/-! Op5: {}. -/
namespace Dn
open PySem L2 ClX StX PySem.Spec PyProof.Rows PySem.Calls
section
variable {Y : WX} {K : PySem.W.Frag} {σ : L2.St} {H : Hp} {s : S} {Q : VK}
theorem den_disp0 (h : den K Y (dispM []) σ H Q) : tDNewK σ H Q := by
  obtain ⟨C, W, s, at', p⟩ := h
  intro q hq
  obtain ⟨l3, at3, r3⟩ := at'.newH hq (KVs.nil (K := K) (W := W))
  exact p _ _ l3 at3 _ r3
theorem xdisp0 {X : Cx} {pos : Pos} : PE X (.Dict [] [] pos) (den X.K Y (dispM [])) := pe_imp pe_dnewK fun _ _ _ => den_disp0
end
end Dn
/-! Ev1: a caught exception that is kept as a value behind its try. -/
namespace Dn
open PySem L2 PySem.Spec PyProof.Rows PySem.Calls
theorem _root_.PySem.HandSPX.FlyingZ.keep {B h h' : Heap} {l : List PySem.Env} {a : Addr} {Z : Obj → Prop} (x : HandSPX.FlyingZ B l a Z h) (k : ∀ q o, h.get? q = some o → h'.get? q = some o) : HandSPX.FlyingZ B l a Z h' := by
  obtain ⟨k1, k2, k3, oe, vs, T, oT, ts, he, hz, hd, h1, hT, hne, hoT, hdT, h3⟩ := x
  exact ⟨fun b o e => k b o (k1 b o e), k2, Heap.FunFrames.of_keeps (fun b o e _ => ⟨o, k b o e, rfl⟩) k3, oe, vs, T, oT, ts, k _ _ he, hz, hd, h1, hT, hne, k _ _ hoT, hdT, h3⟩
end Dn
/-! Ev2: try .. except C as e: y = e; the kept exception's fields; isinstance of it; {"a": 1} as a value. -/
namespace Dn
open PySem L2 ClX StX PySem.Spec PyProof.Rows
section
variable {Y : WX} {K : PySem.W.Frag} {D : Ends} {σ : L2.St} {H : Hp} {tab : List (Str × Bool)} {fa fb : M Fl} {cv : Value} {C : Ctx} {W : Vw} {i j : Nat}
theorem At.del {s : S} (h : At K C W s σ H) (i : Nat) : At K C W { s with env := s.env.set i none } (σ.set i none) H := by
  have ne : ∀ {m : Nat} {sv : SV}, (s.env.set i none)[m]? = some (some sv) → i ≠ m := fun {m sv} he hm => by
    subst hm
    have hi : i < s.env.length := by
      have := (List.getElem?_eq_some_iff.mp he).1
      rwa [List.length_set] at this
    rw [List.getElem?_set_self hi] at he
    cases he
  refine ⟨h.ok, h.keep, h.pre, h.gro, by rw [List.length_set, List.length_set]; exact h.len, fun j e he => ?_, fun j ys he => ?_, fun j k ys zs a h1 h2 h3 h4 => ?_⟩
  · have n1 := ne he
    rw [List.getElem?_set_ne n1] at he ⊢
    exact h.val j e he
  · have n1 := ne he
    rw [List.getElem?_set_ne n1] at he ⊢
    exact h.own j ys he
  · have n1 := ne h1
    have n2 := ne h2
    rw [List.getElem?_set_ne n1] at h1 h3
    rw [List.getElem?_set_ne n2] at h2 h4
    exact h.dst j k ys zs a h1 h2 h3 h4
end
end Dn
/-! Ev3: a kept exception's fields; isinstance of it; {"a": 1} as a value and its repr. -/
namespace Dn
open PySem L2 ClX StX PySem.Spec PyProof.Rows
/-! ### e.f -/
end Dn
/-! Ev4: {} and {"a": 1} as values that never change. -/
namespace Dn
open PySem L2 ClX StX PySem.Spec PyProof.Rows PySem.Calls
end Dn
/-! Tr1: a def's own handles are frozen and dropped when it ends. -/
namespace Dn
open PySem L2 PySem.Spec PyProof.Rows
mutual
/-- no handle from n on -/
def PV.cl (n : Nat) : PV → Prop
  | .hnd m => m < n
  | .tup xs => PV.cls n xs
  | .lst xs => PV.cls n xs
  | .obj _ _ vs => PV.cls n vs
  | .exn _ _ vs => PV.cls n vs
  | .dct _ vs => PV.cls n vs
  | _ => True
def PV.cls (n : Nat) : List PV → Prop
  | [] => True
  | x :: xs => PV.cl n x ∧ PV.cls n xs
end
def MO.cl (n i : Nat) : MO → Prop
  | .dic kvs => PV.cls n (kvs.map (·.2))
  | .ins _ _ vs => i + 1 < n ∧ PV.cls n vs
  | .own m => m < n
  | .dtt kvs => PV.cls n (kvs.map (·.2))
  | .gone => True
mutual
/-- a def's own dict is a value behind it -/
def PV.frz (n : Nat) (st : List MO) : PV → PV
  | .hnd m => if n ≤ m then (match st[m]? with
    | some (.dic kvs) => .dct (kvs.map (·.1)) (kvs.map (·.2))
    | _ => .hnd m) else .hnd m
  | .tup xs => .tup (PV.frzs n st xs)
  | .lst xs => .lst (PV.frzs n st xs)
  | .obj c ks vs => .obj c ks (PV.frzs n st vs)
  | d => d
def PV.frzs (n : Nat) (st : List MO) : List PV → List PV
  | [] => []
  | x :: xs => PV.frz n st x :: PV.frzs n st xs
end
theorem frzs_len {n : Nat} {st : List MO} : ∀ {xs : List PV}, (PV.frzs n st xs).length = xs.length
  | [] => rfl
  | x :: xs => by rw [PV.frzs, List.length_cons, List.length_cons, frzs_len]
section
variable {K : PySem.W.Frag} {W W0 : Vw} {H H0 : Hp} {st st0 : List MO} {n : Nat} {a : Addr}
theorem ix_hs (hd : W.hs.Nodup) {m m' : Nat} {a : Addr} (p : W.hs[m]? = some a) (q : W.hs[m']? = some a) : m = m' := by
  obtain ⟨l1, y1⟩ := List.getElem?_eq_some_iff.mp p
  obtain ⟨l2, y2⟩ := List.getElem?_eq_some_iff.mp q
  exact (List.getElem_inj hd).mp (y1.trans y2.symm)
mutual
theorem Rep.cl (h : W.hs.length ≤ n) : ∀ {v : V} {d : PV}, Rep K W v d → d.cl n
  | _, _, .non => trivial
  | _, _, .bl _ => trivial
  | _, _, .int _ => trivial
  | _, _, .str _ => trivial
  | _, _, .tup _ r => by rw [PV.cl]; exact Reps.cl h r
  | _, _, .lst _ r => by rw [PV.cl]; exact Reps.cl h r
  | _, _, .scr _ => trivial
  | _, _, .hnd e => by
    rw [PV.cl]
    have := (List.getElem?_eq_some_iff.mp e).1
    omega
  | _, _, .obj _ _ _ _ r => by rw [PV.cl]; exact Reps.cl h r
  | _, _, .exn _ _ _ _ r => by rw [PV.cl]; exact Reps.cl h r
  | _, _, .dic _ => trivial
  | _, _, .dct _ _ r => by rw [PV.cl]; exact Reps.cl h r
  | _, _, .kt _ => trivial
theorem Reps.cl (h : W.hs.length ≤ n) : ∀ {vs : List V} {ds : List PV}, Reps K W vs ds → PV.cls n ds
  | _, _, .nil => trivial
  | _, _, .cons q r => ⟨Rep.cl h q, Reps.cl h r⟩
end
theorem KVs.clv {κ : Type} (h : W.hs.length ≤ n) : ∀ {vs : List (κ × V)} {ds : List (κ × PV)}, KVs K W vs ds → PV.cls n (ds.map (·.2))
  | _, _, .nil => trivial
  | _, _, .cons q r => ⟨q.cl h, KVs.clv h r⟩
theorem okk_cl (ok : Okk K W st H) {i : Nat} {mo : MO} (e : st[i]? = some mo) : mo.cl st.length i := by
  have hl := ok.len
  have hi : i < W.hs.length := by
    have := (List.getElem?_eq_some_iff.mp e).1
    omega
  rcases ok.hnd i _ (List.getElem?_eq_getElem hi) with ⟨_, mo', e', mr⟩ | ⟨_, e'⟩
  · rw [e] at e'
    cases e'
    cases mr with
    | dic _ k => exact k.clv (by omega)
    | dtt _ k => exact k.clv (by omega)
    | ins _ _ h1 h2 _ r =>
      refine ⟨?_, r.cl (by omega)⟩
      have h3 := ix_hs ok.nd h1 (List.getElem?_eq_getElem hi)
      have h4 := (List.getElem?_eq_some_iff.mp h2).1
      omega
    | own h1 _ =>
      have := (List.getElem?_eq_some_iff.mp h1).1
      show _ < _
      omega
  · rw [e] at e'
    cases e'
    trivial
/-! ### locking for good -/
def lckL : List Addr → VK → VK
  | [], Q => Q
  | d :: S, Q => fun v H => ∃ u, H d = some u ∧ Mut (some u) ∧ ∀ od, lckL S Q v (upd H d (.frz od u))
/-- Q, some dicts locked for good -/
def lckQ (Q : VK) : VK := fun v H => ∃ S, lckL S Q v H
theorem lckL_of : ∀ {S : List Addr} {H : Hp} {Q : VK} {v : V}, S.Nodup → (∀ a ∈ S, ∃ u, H a = some u ∧ Mut (some u)) →
    (∀ H' : Hp, (∀ a ∈ S, ∀ u, H a = some u → ∃ o, H' a = some (.frz o u)) → (∀ a, a ∉ S → H' a = H a) → Q v H') → lckL S Q v H
  | [], H, Q, v, _, _, q => q H (fun a h => nomatch h) fun a _ => rfl
  | d :: S, H, Q, v, nd, h, q => by
    obtain ⟨u, e, mu⟩ := h d List.mem_cons_self
    rw [List.nodup_cons] at nd
    refine ⟨u, e, mu, fun od => lckL_of nd.2 (fun a ha => ?_) fun H' h1 h2 => q H' (fun a ha w ew => ?_) fun a ha => ?_⟩
    · have hne : a ≠ d := fun z => nd.1 (z ▸ ha)
      rw [upd_ne hne]
      exact h a (List.mem_cons_of_mem _ ha)
    · rcases List.mem_cons.mp ha with rfl | ha
      · rw [e] at ew
        cases ew
        exact ⟨od, (h2 _ nd.1).trans upd_same⟩
      · have hne : a ≠ d := fun z => nd.1 (z ▸ ha)
        exact h1 a ha w (by rw [upd_ne hne]; exact ew)
    · have hne : a ≠ d := fun z => ha (by rw [z]; exact List.mem_cons_self)
      rw [h2 a fun z => ha (List.mem_cons_of_mem _ z), upd_ne hne]
theorem mut_there {P : Program} {w : World} {H : Hp} {h : Heap} {d : Addr} {u : HO} (x : ObjOk P w H h d u) (mu : Mut (some u)) : ∃ od, h.get? d = some od := by
  cases u with
  | lst xs => obtain ⟨_, _, _, _, e⟩ := x; exact ⟨_, e⟩
  | dK kvs => obtain ⟨_, _, _, _, o, _, _, e, _⟩ := x; exact ⟨o, e⟩
  | dT kvs => obtain ⟨_, _, _, _, o, _, _, e, _⟩ := x; exact ⟨o, e⟩
  | set S n => obtain ⟨o, _, _, _, e, _⟩ := x; exact ⟨o, e⟩
  | ins C dx fs => obtain ⟨_, _, _, e, _⟩ := x; exact ⟨_, e⟩
  | ext φ => obtain ⟨_, ⟨_, e⟩, _⟩ := x; exact ⟨_, e⟩
  | _ => exact False.elim mu
theorem hok_lock {P : Program} {w : World} {H : Hp} {h : Heap} {d : Addr} {u : HO} (ok : HOk P w H h) (e : H d = some u) (mu : Mut (some u)) : ∃ od, HOk P w (upd H d (.frz od u)) h := by
  obtain ⟨od, ho⟩ := mut_there (ok d u e) mu
  have no : ∀ {b : Addr} {x : HO}, H b = some x → ¬ Mut (some x) → b ≠ d := fun {b x} q n z => by
    subst z
    rw [e] at q
    cases q
    exact n mu
  have stay : ∀ {b : Addr} {x : HO}, ObjOk P w H h b x → ObjOk P w (upd H d (.frz od u)) h b x := fun {b x} q =>
    q.stay (fun _ _ _ z => z) (fun c z => by rw [upd_ne (no z fun q => q)]; exact z) fun c xs z => by rw [upd_ne (no z fun q => q)]; exact z
  refine ⟨od, fun b x q => ?_⟩
  by_cases hb : b = d
  · subst hb
    rw [upd_same] at q
    cases q
    exact ⟨ho, stay (ok b u e)⟩
  · rw [upd_ne hb] at q
    exact stay (ok b x q)
theorem ce_lock {P : Program} {w : World} {outer : List PySem.Env} {H : Hp} {s : Shared} {u : Value} {s' : Shared} {v : V} {Q : VK} : ∀ {S : List Addr} {H' : Hp}, s'.os = s.os → AllBare s'.gens → Un (frs outer) [] H H' s.heap s'.heap → HOk P w H' s'.heap → RelV v u → lckL S Q v H' → CE outer P w H s Q u s'
  | [], H', os, b, un, ok, r, q => ⟨v, H', os, b, un, ok, r, q⟩
  | d :: S, H', os, bare, un, ok, r, q => by
    obtain ⟨o, e, mu, q⟩ := q
    obtain ⟨od, ok2⟩ := hok_lock ok e mu
    have no : ∀ {b : Addr} {x : HO}, H' b = some x → ¬ Mut (some x) → b ≠ d := fun {b x} y n z => by
      subst z
      rw [e] at y
      cases y
      exact n mu
    refine ce_lock os bare ⟨un.keep, un.slot, fun c o1 e1 e2 e3 => ?_, un.there, fun c xs e1 => ?_, fun c o1 u1 e1 => ?_, fun c ps e1 => ?_⟩ ok2 r (q od)
    · have z := un.free c o1 e1 e2 e3
      rw [upd_ne (fun y => by rw [y, e] at z; cases z)]
      exact z
    · have z := un.tups c xs e1
      rw [upd_ne (no z fun q => q)]
      exact z
    · have z := un.frzs c o1 u1 e1
      rw [upd_ne (no z fun q => q)]
      exact z
    · obtain ⟨more, z⟩ := un.tbls c ps e1
      exact ⟨more, by rw [upd_ne (no z fun q => q)]; exact z⟩
theorem FnG.lck {P : Program} {w : World} {K : PySem.W.Frag} {mg : Str → Option Value} {base : Heap} {CX : CXT} {k : Nat} {f : Addr} {fd : FuncData} {ps : List Str} {sp : Sp} (F : FnG P w K mg base CX k f fd ps sp) : FnG P w K mg base CX k f fd ps (fun vs H Q E => sp vs H (lckQ Q) E) := by
  refine ⟨fun vs H Q E q => F.len vs H _ E q, fun A outer s H args us vs Q E hgd hr e0 hb r q => codeAny_mono (F.run A outer s H args us vs _ E hgd hr e0 hb r q) fun res s' hq => ?_⟩
  cases res with
  | error e => exact hq
  | ok fl =>
    cases fl with
    | next => exact hq
    | brk => exact hq
    | cont => exact hq
    | ret u =>
      obtain ⟨v, H', os, b, un, ok, rv, S, q⟩ := hq
      exact ce_lock os b un ok rv q
theorem pe_lck {X : Cx} {e : Expr} {t : TE} (h : PE X e t) : PE X e (fun σ H Q => t σ H (lckQ Q)) := by
  refine ⟨fun pins s σ H Q I q => wpAny_mono (h.run pins s σ H _ I q) (fun v s' hv => ?_) fun _ _ z => z⟩
  obtain ⟨x, H', I', r, S, q⟩ := hv
  induction S generalizing H' with
  | nil => exact ⟨x, H', I', r, q⟩
  | cons d S ih =>
    obtain ⟨u, e, mu, q⟩ := q
    obtain ⟨od, I2⟩ := I'.lock e mu
    exact ih _ I2 (q od)
/-- the view behind a def: its own handles frozen -/
noncomputable def Vw.cut (W : Vw) (n : Nat) (H : Hp) : Vw := ⟨fun a => open Classical in if a ∈ W.hs.drop n ∧ W.F a = none then H a else W.F a, W.hs.take n⟩
theorem cut_F (h : W.F a ≠ none) : (W.cut n H).F a = W.F a := by
  show (if _ then _ else _) = _
  rw [if_neg (fun z => h z.2)]
theorem cut_out (h : a ∉ W.hs.drop n) : (W.cut n H).F a = W.F a := by
  show (if _ then _ else _) = _
  rw [if_neg (fun z => h z.1)]
theorem cut_in (h : a ∈ W.hs.drop n) (hF : W.F a = none) : (W.cut n H).F a = H a := by
  show (if _ then _ else _) = _
  rw [if_pos ⟨h, hF⟩]
theorem mem_drop {l : List Addr} {m : Nat} (h : l[m]? = some a) (hn : n ≤ m) : a ∈ l.drop n := by
  have e : (l.drop n)[m - n]? = some a := by
    rw [List.getElem?_drop, show n + (m - n) = m by omega]
    exact h
  exact List.mem_of_getElem? e
theorem nmem_drop {l : List Addr} (hd : l.Nodup) {m : Nat} (h : l[m]? = some a) (hn : m < n) : a ∉ l.drop n := fun hm => by
  obtain ⟨j, hj⟩ := List.getElem?_of_mem hm
  rw [List.getElem?_drop] at hj
  obtain ⟨l1, y1⟩ := List.getElem?_eq_some_iff.mp h
  obtain ⟨l2, y2⟩ := List.getElem?_eq_some_iff.mp hj
  have := (List.getElem_inj hd).mp (y1.trans y2.symm)
  omega
theorem take_get {l : List Addr} {m : Nat} (hm : m < n) : (l.take n)[m]? = l[m]? := by
  rw [List.getElem?_take, if_pos hm]
theorem cut_same (W : Vw) (n : Nat) (H : Hp) : Same W.F (W.cut n H).F := fun b u e => by
  rw [cut_F (by rw [e]; exact fun z => nomatch z)]
  exact e
mutual
theorem Rep.cutV : ∀ {v : V} {d : PV}, Rep K W v d → d.cl n → Rep K (W.cut n H) v d
  | _, _, .non, _ => .non
  | _, _, .bl b, _ => .bl b
  | _, _, .int i, _ => .int i
  | _, _, .str x, _ => .str x
  | _, _, .tup h r, c => .tup (same_t (cut_same W n H) h) (Reps.cutV r (by rw [PV.cl] at c; exact c))
  | _, _, .lst h r, c => .lst (cut_same W n H _ _ h) (Reps.cutV r (by rw [PV.cl] at c; exact c))
  | _, _, .scr h, _ => .scr ((cut_same W n H).seq h)
  | _, _, .hnd h, c => .hnd (by
    rw [PV.cl] at c
    exact (take_get c).trans h)
  | _, _, .obj c h d n r, q => .obj c (cut_same W _ H _ _ h) (cut_same W _ H _ _ d) n (Reps.cutV r (by rw [PV.cl] at q; exact q))
  | _, _, .exn c h d n r, q => .exn c (cut_same W _ H _ _ h) (cut_same W _ H _ _ d) n (Reps.cutV r (by rw [PV.cl] at q; exact q))
  | _, _, .dic h, _ => .dic (cut_same W n H _ _ h)
  | _, _, .dct h n r, q => .dct (cut_same W _ H _ _ h) n (Reps.cutV r (by rw [PV.cl] at q; exact q))
  | _, _, .kt h, _ => .kt (cut_same W n H _ _ h)
theorem Reps.cutV : ∀ {vs : List V} {ds : List PV}, Reps K W vs ds → PV.cls n ds → Reps K (W.cut n H) vs ds
  | _, _, .nil, _ => .nil
  | _, _, .cons h r, c => .cons (Rep.cutV h c.1) (Reps.cutV r c.2)
end
theorem KVs.cutV {κ : Type} : ∀ {vs : List (κ × V)} {ds : List (κ × PV)}, KVs K W vs ds → PV.cls n (ds.map (·.2)) → KVs K (W.cut n H) vs ds
  | _, _, .nil, _ => .nil
  | _, _, .cons h r, c => .cons (h.cutV c.1) (KVs.cutV r c.2)
theorem KVs.zip : ∀ {vs : List (Key × V)} {ds : List (Key × PV)}, KVs K W vs ds → vs = (ds.map (·.1)).zip (vs.map (·.2)) ∧ Reps K W (vs.map (·.2)) (ds.map (·.2))
  | _, _, .nil => ⟨rfl, .nil⟩
  | _, _, .cons (k := k) (v := v) (d := d) (r := r) (s := s) h t => by
    obtain ⟨e, q⟩ := KVs.zip t
    refine ⟨?_, .cons h q⟩
    rw [List.map_cons, List.map_cons, List.zip_cons_cons, ← e]
/-- H' is H with own dicts locked -/
structure Lkd (W : Vw) (st : List MO) (n : Nat) (H H' : Hp) : Prop where
  out : ∀ a, (a ∈ W.hs.drop n → W.F a ≠ none) → H' a = H a
  dic : ∀ m a kvs, n ≤ m → W.hs[m]? = some a → st[m]? = some (.dic kvs) → ∀ u, H a = some u → ∃ o, H' a = some (.frz o u)
mutual
theorem Rep.frz {HL : Hp} (ok : Okk K W st H) (lk : Lkd W st n H HL) : ∀ {v : V} {d : PV}, Rep K W v d → (d.frz n st).cl n → Rep K (W.cut n HL) v (d.frz n st)
  | _, _, .non, _ => .non
  | _, _, .bl b, _ => .bl b
  | _, _, .int i, _ => .int i
  | _, _, .str x, _ => .str x
  | _, _, .tup h r, c => by
    rw [PV.frz] at c ⊢
    rw [PV.cl] at c
    exact .tup (same_t (cut_same W n HL) h) (Reps.frz ok lk r c)
  | _, _, .lst h r, c => by
    rw [PV.frz] at c ⊢
    rw [PV.cl] at c
    exact .lst (cut_same W n HL _ _ h) (Reps.frz ok lk r c)
  | _, _, .scr h, _ => .scr ((cut_same W n HL).seq h)
  | _, .hnd m, .hnd h, c => by
    rw [PV.frz] at c ⊢
    split at c
    · rename_i hn
      rw [if_pos hn]
      split at c
      · rename_i kvs hs
        obtain ⟨f, mr⟩ := ok.live h hs (fun z => nomatch z)
        cases mr with
        | dic hH kv =>
          have e := cut_in (H := HL) (mem_drop h hn) f
          obtain ⟨o, eo⟩ := lk.dic m _ _ hn h hs _ hH
          rw [PV.cl] at c
          obtain ⟨z1, z2⟩ := kv.zip
          refine .dct (o := o) (us := _) ?_ (by rw [List.length_map, List.length_map]) (Reps.cutV z2 c)
          rw [e, eo]
          exact congrArg (fun z => some (HO.frz o (HO.dK z))) z1
      · rw [PV.cl] at c
        omega
    · rename_i hn
      rw [if_neg hn]
      exact Rep.cutV (.hnd h) c
  | _, _, .obj c h d n r, q => by
    rw [PV.frz] at q ⊢
    rw [PV.cl] at q
    exact .obj c (cut_same W _ HL _ _ h) (cut_same W _ HL _ _ d) (by rw [frzs_len]; exact n) (Reps.frz ok lk r q)
  | _, _, .exn c h d n r, q => Rep.cutV (.exn c h d n r) q
  | _, _, .dic h, _ => .dic (cut_same W n HL _ _ h)
  | _, _, .dct h n r, q => Rep.cutV (.dct h n r) q
  | _, _, .kt h, _ => .kt (cut_same W n HL _ _ h)
theorem Reps.frz {HL : Hp} (ok : Okk K W st H) (lk : Lkd W st n H HL) : ∀ {vs : List V} {ds : List PV}, Reps K W vs ds → PV.cls n (PV.frzs n st ds) → Reps K (W.cut n HL) vs (PV.frzs n st ds)
  | _, _, .nil, _ => .nil
  | _, _, .cons h r, c => .cons (Rep.frz ok lk h c.1) (Reps.frz ok lk r c.2)
end
/-- what stood before, and still stands or names nothing new -/
def Shut (st0 st : List MO) : Prop := ∀ i mo, i < st0.length → st[i]? = some mo → st0[i]? = some mo ∨ mo.cl st0.length i
/-- the Okk part -/
theorem cut_okk {HL : Hp} {n : Nat} (ok0 : Okk K W0 st0 H0) (hn : st0.length = n) (hle : W0.hs.length ≤ W.hs.length) (ok : Okk K W st H) (hc : Shut st0 st) (lk : Lkd W st n H HL) : Okk K (W.cut n HL) (st.take n) HL := by
  subst hn
  have len0 := ok0.len
  have len1 := ok.len
  refine ⟨fun b u e => ?_, fun i b e => ?_, ?_, ?_⟩
  · have e : (W.cut st0.length HL).F b = some u := e
    by_cases hm : b ∈ W.hs.drop st0.length ∧ W.F b = none
    · rw [cut_in hm.1 hm.2] at e
      exact e
    · unfold Vw.cut at e
      dsimp only at e
      rw [if_neg hm] at e
      rw [lk.out b fun z y => hm ⟨z, y⟩]
      exact ok.sub b u e
  · have hi : i < st0.length := by
      have h1 := (List.getElem?_eq_some_iff.mp e).1
      have h2 : (W.cut st0.length HL).hs.length = (W.hs.take st0.length).length := rfl
      rw [h2, List.length_take] at h1
      omega
    have e1 : W.hs[i]? = some b := (take_get hi).symm.trans e
    have nd := nmem_drop ok.nd e1 hi
    have eF := cut_out (H := HL) nd
    have eH : HL b = H b := lk.out b fun z => absurd z nd
    have eS : (st.take st0.length)[i]? = st[i]? := by rw [List.getElem?_take, if_pos hi]
    rcases ok.hnd i b e1 with ⟨g1, mo, g2, g3⟩ | ⟨g1, g2⟩
    · refine .inl ⟨eF.trans g1, mo, eS.trans g2, MRep.at ?_ eH⟩
      have c : mo.cl st0.length i := by
        rcases hc i mo hi g2 with z | z
        · exact okk_cl ok0 z
        · exact z
      cases g3 with
      | dic h k => exact .dic h (k.cutV c)
      | dtt h k => exact .dtt h (k.cutV c)
      | ins h1 h2 h3 h4 h5 r =>
        have e3 := ix_hs ok.nd h3 e1
        subst e3
        exact .ins h1 h2 e ((take_get c.1).trans h4) h5 (r.cutV c.2)
      | own h1 h2 => exact .own ((take_get c).trans h1) h2
    · exact .inr ⟨by rw [eF]; exact g1, eS.trans g2⟩
  · exact ok.nd.sublist (List.take_sublist _ _)
  · show (st.take _).length = (W.hs.take _).length
    rw [List.length_take, List.length_take, len1]
theorem le_hs (l : W0.Le W) : W0.hs.length ≤ W.hs.length := by
  rcases Nat.lt_or_ge W.hs.length W0.hs.length with z | z
  · have := l.pre W.hs.length _ (List.getElem?_eq_getElem z)
    rw [List.getElem?_eq_none (Nat.le_refl _)] at this
    cases this
  · exact z
theorem cut_ok {HL : Hp} (ok0 : Okk K W0 st0 H0) (l : W0.Le W) (ok : Okk K W st H) (g : Grow W0 W H0 H) (hc : Shut st0 st) (lk : Lkd W st st0.length H HL) :
    W0.Le (W.cut st0.length HL) ∧ Okk K (W.cut st0.length HL) (st.take st0.length) HL ∧ Grow W0 (W.cut st0.length HL) H0 HL := by
  have len0 := ok0.len
  have out : ∀ {b : Addr}, H0 b ≠ none → b ∉ W.hs.drop st0.length := fun {b} hb hm => by
    obtain ⟨g1, g2⟩ := g.gro b hb
    obtain ⟨i, hi⟩ := List.getElem?_of_mem (g2 (List.mem_of_mem_drop hm))
    have h1 := (List.getElem?_eq_some_iff.mp hi).1
    exact nmem_drop ok.nd (l.pre i b hi) (show i < st0.length by omega) hm
  refine ⟨⟨fun b u e => cut_same W _ HL b u (l.ex b u e), fun i b e => ?_⟩, cut_okk ok0 rfl (le_hs l) ok hc lk, ⟨fun b o e hb => ?_, fun b hb => ?_⟩⟩
  · have := (List.getElem?_eq_some_iff.mp e).1
    exact (take_get (by omega)).trans (l.pre i b e)
  · rw [lk.out b fun z => absurd z (out (by rw [e]; exact fun q => nomatch q))]
    exact g.keep b o e hb
  · obtain ⟨g1, g2⟩ := g.gro b hb
    refine ⟨?_, fun hm => g2 (List.mem_of_mem_take hm)⟩
    rw [← g1]
    exact cut_out (out hb)
/-- the live dicts from n on -/
theorem lkd_all {n : Nat} {Q : VK} {v : V} (ok : Okk K W st H) (q : ∀ HL, Lkd W st n H HL → Q v HL) : lckQ Q v H := by
  have hS : ∃ S : List Addr, S.Nodup ∧ ∀ a, a ∈ S ↔ ∃ m kvs, n ≤ m ∧ W.hs[m]? = some a ∧ st[m]? = some (.dic kvs) := by
    open Classical in
    refine ⟨W.hs.filter fun a => decide (∃ m kvs, n ≤ m ∧ W.hs[m]? = some a ∧ st[m]? = some (.dic kvs)), ok.nd.sublist List.filter_sublist, fun a => ?_⟩
    rw [List.mem_filter]
    constructor
    · exact fun h => of_decide_eq_true h.2
    · rintro ⟨m, kvs, h1, h2, h3⟩
      exact ⟨List.mem_of_getElem? h2, decide_eq_true ⟨m, kvs, h1, h2, h3⟩⟩
  obtain ⟨S, nd, hS⟩ := hS
  refine ⟨S, lckL_of nd (fun a ha => ?_) fun HL h1 h2 => q HL ⟨fun a ha => ?_, fun m a kvs hm e1 e2 u e => h1 a ((hS a).mpr ⟨m, kvs, hm, e1, e2⟩) u e⟩⟩
  · obtain ⟨m, kvs, _, e1, e2⟩ := (hS a).mp ha
    cases (ok.live e1 e2 (fun z => nomatch z)).2 with
    | dic hH _ => exact ⟨_, hH, trivial⟩
  · refine h2 a fun z => ?_
    obtain ⟨m, kvs, hm, e1, e2⟩ := (hS a).mp z
    exact ha (mem_drop e1 hm) (ok.live e1 e2 (fun z => nomatch z)).1
end
/-- how a def ends -/
noncomputable def fin (st0 st : List MO) (d : PV) : PV × List MO := open Classical in
  if st.length ≤ st0.length then (d, st) else if (d.frz st0.length st).cl st0.length ∧ Shut st0 st then (d.frz st0.length st, st.take st0.length) else (d, st)
noncomputable def finR (st0 : List MO) : RR → RR
  | .ok d st => .ok (fin st0 st d).1 (fin st0 st d).2
  | r => r
noncomputable def fnT (np nn : Nat) (body : Nat → M Fl) : Fn := fun n ds st => finR st (fnM np nn body n ds st)
theorem lckQ_no {Q : VK} {v : V} {H : Hp} (h : Q v H) : lckQ Q v H := ⟨[], h⟩
theorem spM_fin {K : PySem.W.Frag} {np : Nat} {m : Fn} {vs : List V} {H : Hp} {Q : VK} {E : XK} (h : spM K np (fun n ds st => finR st (m n ds st)) vs H Q E) : spM K np m vs H (lckQ Q) E := by
  obtain ⟨hl, n, W, st, ds, ok, r, p⟩ := h
  refine ⟨hl, n, W, st, ds, ok, r, ?_⟩
  dsimp only at p
  cases e : m n ds st with
  | stk => rw [e] at p; exact p.elim
  | exc x st' => rw [e] at p; exact p
  | ok d st' =>
    rw [e] at p
    intro v W' H' l ok' g rv
    have p : SpPost K W H Q E (.ok (fin st st' d).1 (fin st st' d).2) := p
    unfold fin at p
    split at p
    · exact lckQ_no (p v W' H' l ok' g rv)
    · split at p
      · rename_i hc
        refine lkd_all (n := st.length) ok' fun HL lk => ?_
        obtain ⟨l2, ok2, g2⟩ := cut_ok ok l ok' g hc.2 lk
        exact p v _ HL l2 ok2 g2 (rv.frz ok' lk hc.1)
      · exact lckQ_no (p v W' H' l ok' g rv)
theorem FnG.sp {P : Program} {w : World} {K : PySem.W.Frag} {mg : Str → Option Value} {base : Heap} {CX : CXT} {k : Nat} {f : Addr} {fd : FuncData} {ps : List Str} {sp sp' : Sp} (F : FnG P w K mg base CX k f fd ps sp) (h : ∀ vs H Q E, sp' vs H Q E → sp vs H Q E) : FnG P w K mg base CX k f fd ps sp' :=
  ⟨fun vs H Q E q => F.len vs H Q E (h _ _ _ _ q), fun A outer s H args us vs Q E hgd hr e0 hb r q => F.run A outer s H args us vs Q E hgd hr e0 hb r (h _ _ _ _ q)⟩
theorem FnG.fin {P : Program} {w : World} {K : PySem.W.Frag} {mg : Str → Option Value} {base : Heap} {CX : CXT} {k np nn i : Nat} {f : Addr} {fd : FuncData} {ps : List Str} {body : Nat → M Fl} (F : FnG P w K mg base CX k f fd ps (spM K i (fnM np nn body))) : FnG P w K mg base CX k f fd ps (spM K i (fnT np nn body)) :=
  F.lck.sp fun _ _ _ _ h => spM_fin h
/-- an expression's own handles are frozen and dropped -/
noncomputable def trimE (c : M PV) : M PV := fun s => match c s with
  | .ok d s' => open Classical in if s'.sto.length ≤ s.sto.length then .ok d s' else if s'.env = s.env ∧ (d.frz s.sto.length s'.sto).cl s.sto.length ∧ Shut s.sto s'.sto then .ok (d.frz s.sto.length s'.sto) { s' with sto := s'.sto.take s.sto.length } else .ok d s'
  | r => r
section
variable {Y : WX} {K : PySem.W.Frag} {C : Ctx} {W W' : Vw} {σ : L2.St} {H H' : Hp} {s s' : S} {Q : VK}
theorem At.hsL (h : At K C W s σ H) : C.hs0.length ≤ s.sto.length := by
  rw [h.ok.len]
  rcases Nat.lt_or_ge W.hs.length C.hs0.length with z | z
  · have := h.pre W.hs.length _ (List.getElem?_eq_getElem z)
    rw [List.getElem?_eq_none (Nat.le_refl _)] at this
    cases this
  · exact z
theorem At.trim {HL : Hp} (h : At K C W s σ H) (l : W.Le W') (h' : At K C W' s' σ H') (he : s'.env = s.env) (hc : Shut s.sto s'.sto) (lk : Lkd W' s'.sto s.sto.length H' HL) :
    W.Le (W'.cut s.sto.length HL) ∧ At K C (W'.cut s.sto.length HL) { s' with sto := s'.sto.take s.sto.length } σ HL := by
  have len0 := h.ok.len
  have len1 := h'.ok.len
  have hle := le_hs l
  have hs0 := h.hsL
  have le : W.Le (W'.cut s.sto.length HL) := ⟨fun b u e => cut_same W' _ HL b u (l.ex b u e), fun i b e => by
    have := (List.getElem?_eq_some_iff.mp e).1
    exact (take_get (by omega)).trans (l.pre i b e)⟩
  have ok2 : Okk K (W'.cut s.sto.length HL) (s'.sto.take s.sto.length) HL := cut_okk h.ok rfl hle h'.ok hc lk
  have inC : ∀ {i : Nat} {b : Addr}, C.hs0[i]? = some b → b ∉ W'.hs.drop s.sto.length := fun {i b} e => by
    have h1 := (List.getElem?_eq_some_iff.mp e).1
    exact nmem_drop h'.ok.nd (h'.pre i b e) (by omega)
  have outG : ∀ {b : Addr}, C.G b ≠ none → b ∉ W'.hs.drop s.sto.length := fun {b} hb hm => by
    obtain ⟨i, hi⟩ := List.getElem?_of_mem ((h'.gro b hb).2 (List.mem_of_mem_drop hm))
    exact inC hi hm
  refine ⟨le, ok2, fun b o e hb => ?_, fun i b e => ?_, fun b hb => ?_, h'.len, fun i d e => ?_, fun i xs e => ?_, h'.dst⟩
  · rw [lk.out b fun z => absurd z (outG (by rw [e]; exact fun q => nomatch q))]
    exact h'.keep b o e hb
  · have h1 := (List.getElem?_eq_some_iff.mp e).1
    exact (take_get (by omega)).trans (h'.pre i b e)
  · obtain ⟨g1, g2⟩ := h'.gro b hb
    refine ⟨?_, fun hm => g2 (List.mem_of_mem_take hm)⟩
    rw [← g1]
    exact cut_out (outG hb)
  · have e : s'.env[i]? = some (some (.val d)) := e
    have e0 := e
    rw [he] at e0
    obtain ⟨v, z1, r1⟩ := h.val i d e0
    exact ⟨v, z1, r1.mono le⟩
  · have e : s'.env[i]? = some (some (.own xs)) := e
    have e0 := e
    rw [he] at e0
    obtain ⟨a, vs, z1, ow, z2, r⟩ := h'.own i xs e
    obtain ⟨a0, vs0, y1, ow0, y2, r0⟩ := h.own i xs e0
    have nd : a ∉ W'.hs.drop s.sto.length := fun hm => ow.h (List.mem_of_mem_drop hm)
    refine ⟨a, vs, z1, ⟨(cut_out nd).trans ow.f, fun hm => ow.h (List.mem_of_mem_take hm), ow.g⟩, ?_, ?_⟩
    · rw [lk.out a fun z => absurd z nd]
      exact z2
    · exact r.cutV (Reps.cl (by omega) r0)
theorem trim_post {c : M PV} (a : At K C W s σ H) (p : Pst K C W σ (trimE c s) (fun d _ W' H' => ∀ v, Rep K W' v d → Q v H')) : Pst K C W σ (c s) (fun d _ W' H' => ∀ v, Rep K W' v d → lckQ Q v H') := by
  unfold trimE at p
  cases e2 : c s with
  | stk => simp only [e2] at p; exact p.elim
  | exc x s2 => simp only [e2] at p; exact p
  | ok d s2 =>
    simp only [e2] at p
    split at p
    · exact fun W2 H2 l2 at2 v rv => lckQ_no (p W2 H2 l2 at2 v rv)
    · split at p
      · rename_i hc
        intro W2 H2 l2 at2 v rv
        refine lkd_all (n := s.sto.length) at2.ok fun HL lk => ?_
        obtain ⟨l3, at3⟩ := a.trim l2 at2 hc.1 hc.2.2 lk
        exact p _ HL l3 at3 v (rv.frz at2.ok lk hc.2.1)
      · exact fun W2 H2 l2 at2 v rv => lckQ_no (p W2 H2 l2 at2 v rv)
end
/-- a def's computation: as it is (false), or with its own handles dropped (true) -/
noncomputable def fnQ (b : Bool) (np nn : Nat) (body : Nat → M Fl) : Fn := match b with
  | true => fnT np nn body
  | false => fnM np nn body
theorem fnT_len {np nn n : Nat} {body : Nat → M Fl} {ds : List PV} {st : List MO} (h : fnT np nn body n ds st ≠ .stk) : ds.length = np := by
  refine fnM_len (nn := nn) (body := body) (n := n) (st := st) fun z => h ?_
  unfold fnT
  rw [z]
  rfl
theorem fnQ_len {b : Bool} {np nn n : Nat} {body : Nat → M Fl} {ds : List PV} {st : List MO} (h : fnQ b np nn body n ds st ≠ .stk) : ds.length = np := by
  cases b with
  | true => exact fnT_len h
  | false => exact fnM_len h
/-- C(..): its object a value, its own handles dropped -/
noncomputable def makeT (c : Str) (mf : Fn) (n : Nat) (r : M (List PV)) : M PV := bnd r fun ds => trimE fun s => match mf n (.hnd s.sto.length :: ds) (s.sto ++ [.ins c [] [], .own s.sto.length]) with
  | .ok .non st' => (match st'[s.sto.length]?, st'[s.sto.length + 1]? with
    | some (.ins c' ks vs), some (.own j) => if j = s.sto.length then .ok (.obj c' ks vs) { s with sto := (st'.set s.sto.length .gone).set (s.sto.length + 1) .gone } else .stk
    | _, _ => .stk)
  | .exc e st' => .exc e { s with sto := st' }
  | _ => .stk
theorem den_makeT {X : Cx} {Y : WX} {Cc : Addr} {c : Str} {i np n : Nat} {ks : List Str} {mf : Fn} {ca cb : M (List PV)} {σ : L2.St} {H : Hp} {Q : VK} (hc : ClsAt X.K c Cc) (hl : ∀ n ds st, mf n ds st ≠ .stk → ds.length = np)
    (h : den X.K Y (makeT c mf n (appA i ks.length ca cb)) σ H Q) : tMakeG X Y Cc i ks np mf (denA X.K Y ca) (denA X.K Y cb) σ H (lckQ Q) := by
  obtain ⟨C, W, s, at', p⟩ := h
  refine den_appA at' p fun ds es s2 W2 H2 l2 a2 p2 us ws r1 r2 l1 l2' => ⟨l1, l2', fun x dx hx hd ne => ?_⟩
  have p2 := trim_post a2 p2
  obtain ⟨le, a3, rx⟩ := a2.newI hx hd ne hc
  have hlen : s2.sto.length = W2.hs.length := a2.ok.len
  have hkx : (W2.hs ++ [x, dx])[s2.sto.length]? = some x := by rw [hlen]; exact two_0
  have rep : Reps X.K ⟨W2.F, W2.hs ++ [x, dx]⟩ (.ref x :: (us ++ ws)) (.hnd s2.sto.length :: (ds ++ es)) := .cons rx ((r1.append r2).mono le)
  have len : ∀ {z : RR}, mf n (.hnd s2.sto.length :: (ds ++ es)) (s2.sto ++ [.ins c [] [], .own s2.sto.length]) = z → z ≠ .stk → (V.ref x :: (us ++ ws)).length = np := fun {z} e q => by rw [rep.length]; exact hl _ _ _ (by rw [e]; exact q)
  cases e : mf n (.hnd s2.sto.length :: (ds ++ es)) (s2.sto ++ [.ins c [] [], .own s2.sto.length]) with
  | stk => simp only [e] at p2; exact p2.elim
  | exc z st' =>
    simp only [e] at p2
    refine ⟨len e (fun z => nomatch z), n, _, _, _, a3.ok, rep, ?_⟩
    rw [e]
    exact fun W' H' cls d l ok g r => p2 W' σ H' cls d (le.trans l) (a3.call l ok g) r
  | ok d st' =>
    simp only [e] at p2
    cases d <;> try exact p2.elim
    refine ⟨len e (fun z => nomatch z), n, _, _, _, a3.ok, rep, ?_⟩
    rw [e]
    intro v W' H' l ok g rv
    cases rv
    refine ⟨rfl, ?_⟩
    have a4 := a3.call l ok g
    have hx' : W'.hs[s2.sto.length]? = some x := l.pre _ _ hkx
    dsimp only at p2
    split at p2
    · rename_i c' ks' vs' j e1 e2
      split at p2
      · rename_i hj
        subst hj
        obtain ⟨W5, l5, a5, r5⟩ := a4.done (by rw [hlen]; exact a2.hs_le) hx' e1 e2
        exact p2 W5 H' (le.trans (l.trans l5)) a5 _ r5
      · exact p2.elim
    · exact p2.elim
end Dn
/-! Fx: what a printed text is told of the module: defs, methods, classes, each in one row. -/
namespace Dn
open PySem L2 ClX StX NdefX PySem.Spec PyProof.Rows
theorem look_cons {α : Type} {a c : Str} {x y : α} {r : List (Str × α)} (h : ((a, x) :: r).lookup c = some y) : (c = a ∧ y = x) ∨ r.lookup c = some y := by
  rw [List.lookup] at h
  split at h
  · rename_i e
    exact .inl ⟨beq_iff_eq.mp e, (Option.some.inj h).symm⟩
  · exact .inr h
/-- a def of the module, called by place -/
def FnP (K : PySem.W.Frag) (mg : Str → Option Value) (x : Str) (st : Stmt) (ps : List Str) : Prop := ∃ f fd, mg x = some (.ref f) ∧ Fun K x x st f fd ∧ Binds K fd ps []
/-- .. called with keywords -/
def FnKP (K : PySem.W.Frag) (mg : Str → Option Value) (x : Str) (st : Stmt) (ps : List Str) (n : Nat) (ks : List Str) : Prop := ∃ f fd, mg x = some (.ref f) ∧ Fun K x x st f fd ∧ KB K fd ps n ks
/-- a method of the class c (its own or one from above), called so -/
def MthP (K : PySem.W.Frag) (c m qual : Str) (st : Stmt) (ps : List Str) (n : Nat) (ks : List Str) : Prop := ∃ C g fd, ClsAt K c C ∧ Cls K C ∧ Meth K C m g ∧ Fun K m qual st g fd ∧ KB K fd ps n ks
/-- what a def with super() needs: its class at D -/
structure SupF (P : Program) (K : PySem.W.Frag) (mg : Str → Option Value) (f cc cda D : Addr) (slf : Str) : Prop where
  sup : mg "super" = none
  fn : ∃ (oc : Value) (od : Option Addr) (fd : FuncData) (osl : Array (Option Value)) (ar : Arg), K.lookup f = some ⟨oc, od, .func fd, osl⟩ ∧ (fd.params.posonlyargs ++ fd.params.args).head? = some ar ∧ ar.arg = slf
  code : ∃ (oc : Value) (od : Option Addr) (vs : Array Value) (osl : Array (Option Value)) (file : Str) (tf : Tok), K.lookup cda = some ⟨oc, od, .fields vs, osl⟩ ∧ vs[2]? = some (.str file tf) ∧ ((P.main.file : Str) == file) = true
  top : (P.main.scope.names.lookup ("super" : Str)).isSome = false
  cell : ∃ (oc : Value) (od : Option Addr) (osl : Array (Option Value)), K.lookup cc = some ⟨oc, od, .cell (some (.ref D)), osl⟩
  cls : ∃ cd, PySem.W.clsIn K D = some cd
/-- a method with super() -/
def MthS (P : Program) (K : PySem.W.Frag) (mg : Str → Option Value) (c m qual dn : Str) (st : Stmt) (ps : List Str) (n : Nat) (ks : List Str) : Prop := ∃ C g fd cc cda D, ClsAt K c C ∧ Cls K C ∧ Meth K C m g ∧ FunS K m qual st g fd cc cda ∧ SupF P K mg g cc cda D "self" ∧ ClsAt K dn D ∧ KB K fd ps n ks
/-- a class called -/
def MkP (K : PySem.W.Frag) (mg : Str → Option Value) (c qual : Str) (st : Stmt) (ps : List Str) (n : Nat) (ks : List Str) : Prop := ∃ C f fd, ClsAt K c C ∧ mg c = some (.ref C) ∧ Mk K C f ∧ Fun K "__init__" qual st f fd ∧ KB K fd ps (n + 1) ks
def MkS (P : Program) (K : PySem.W.Frag) (mg : Str → Option Value) (c qual dn : Str) (st : Stmt) (ps : List Str) (n : Nat) (ks : List Str) : Prop := ∃ C f fd cc cda D, ClsAt K c C ∧ mg c = some (.ref C) ∧ Mk K C f ∧ FunS K "__init__" qual st f fd cc cda ∧ SupF P K mg f cc cda D "self" ∧ ClsAt K dn D ∧ KB K fd ps (n + 1) ks
/-- super().m of an instance of c, asked in the class dn -/
def SupP (K : PySem.W.Frag) (c dn m qual : Str) (st : Stmt) (ps : List Str) (n : Nat) (ks : List Str) : Prop := ∃ C D g fd, ClsAt K c C ∧ ClsAt K dn D ∧ SupC K C D m g ∧ Fun K m qual st g fd ∧ KB K fd ps n ks
def IntP (mg : Str → Option Value) (x : Str) (i : Int) : Prop := ∃ t, mg x = some (.int i t)
def StrP (mg : Str → Option Value) (x y : Str) : Prop := ∃ t, mg x = some (.str y t)
/-- C.f, an int -/
def CatP (K : PySem.W.Frag) (mg : Str → Option Value) (c f : Str) (i : Int) : Prop := ∃ C mc u, mg c = some (.ref C) ∧ CRead K C mc ∧ CVal K C mc f (.int i) u
theorem supX_of {P : Program} {w : World} {K : PySem.W.Frag} {mg : Str → Option Value} {base : Heap} {N : List Str} {x qual : Str} {st : Stmt} {cc cda f D : Addr} {A : Around} {outer : List PySem.Env} {s : Shared} {H : Hp} {E : XK} (S : SupF P K mg f cc cda D "self")
    (ks : (supX P w K mg base N x qual st cc cda f A outer s H E).env.kindOf "super" = some .globalImplicit) (kc : (supX P w K mg base N x qual st cc cda f A outer s H E).env.kindOf "__class__" = some .free) (sl : (supX P w K mg base N x qual st cc cda f A outer s H E).env.kindOf "self" = some .local) (n0 : N[0]? = some ("self" : Str)) :
    SupX (supX P w K mg base N x qual st cc cda f A outer s H E) "self" D := by
  obtain ⟨oc, od, fd, osl, ar, e1, e2, e3⟩ := S.fn
  obtain ⟨oc2, od2, vs, osl2, file, tf, c1, c2, c3⟩ := S.code
  obtain ⟨oc3, od3, osl3, d1⟩ := S.cell
  exact ⟨ks, kc, sl, n0, S.sup, ⟨f, oc, od, fd, osl, ar, rfl, e1, e2, e3⟩, ⟨cda, oc2, od2, vs, osl2, file, tf, rfl, c1, c2, c3⟩, S.top, ⟨cc, oc3, od3, osl3, rfl, d1⟩, S.cls⟩
/-- a statement that is never come to -/
theorem sstuck {Y : WX} {X : Cx} {st : Stmt} : PS X st (denS X.K Y stuck) := ⟨fun pins s σ H D I h => by
  obtain ⟨C, W, s, at', p⟩ := h
  exact p.elim⟩
end Dn
/-! Fy: from the rows of Fx to what a walk takes. -/
namespace Dn
open PySem L2 ClX StX NdefX PySem.Spec PyProof.Rows
section
variable {P : Program} {w : World} {K : PySem.W.Frag} {mg : Str → Option Value} {base : Heap} {k : Nat} {x qual c m f v dn : Str} {st : Stmt} {N ps ks : List Str} {n np : Nat} {nn : Nat} {body : Nat → M Fl} {bq : Bool}
abbrev bodyQ (P : Program) (w : World) (K : PySem.W.Frag) (mg : Str → Option Value) (base : Heap) (N : List Str) (qual : Str) (st : Stmt) (f : Addr) (cdv : Value) (A : Around) (outer : List PySem.Env) (s : Shared) (H : Hp) (E : XK) : Cx := cxOf (L2.CX P w) P w K mg base N qual (defScope st) f cdv A outer s H E
/-- a def's promise, its facts first -/
abbrev Pr (P : Program) (w : World) (K : PySem.W.Frag) (mg : Str → Option Value) (base : Heap) (k : Nat) (x qual : Str) (st : Stmt) (ps : List Str) (m : Fn) : Prop := ∀ f fd, Fun K x qual st f fd → FnG P w K mg base (L2.CX P w) k f fd ps (spM K ps.length m)
theorem pr_mk (S : FnScope N ps (defScope st)) (hN : ps.length ≤ N.length)
    (hbody : ∀ (f : Addr) (cdv : Value) (A : Around) (outer : List PySem.Env) (s : Shared) (H : Hp) (E : XK) (n : Nat), (A.deeper (envOfC qual (defScope st) s.heap.objs.size f cdv)).guards = some [] → Room k (A.deeper (envOfC qual (defScope st) s.heap.objs.size f cdv)) →
      Takes (bodyQ P w K mg base N qual st f cdv A outer s H E) (yE E) → PassesOwn (model P w) (bodyQ P w K mg base N qual st f cdv A outer s H E).A (bodyQ P w K mg base N qual st f cdv A outer s H E).env (bodyQ P w K mg base N qual st f cdv A outer s H E).xe →
      PSs (bodyQ P w K mg base N qual st f cdv A outer s H E) (defBody st) (denS K (yE E) (body n))) :
    Pr P w K mg base (k + 1) x qual st ps (fnM ps.length N.length body) := fun f fd F =>
  fn_den F S hN fun cdv A outer s H E n hgd hr tk => hbody f cdv A outer s H E n hgd hr tk (passes_of rfl)
/-- .. of a def with super() -/
abbrev PrS (P : Program) (w : World) (K : PySem.W.Frag) (mg : Str → Option Value) (base : Heap) (k : Nat) (x qual dn : Str) (st : Stmt) (ps : List Str) (m : Fn) : Prop := ∀ f fd cc cda D, FunS K x qual st f fd cc cda → SupF P K mg f cc cda D "self" → ClsAt K dn D → FnG P w K mg base (L2.CX P w) k f fd ps (spM K ps.length m)
theorem prs_mk (S : NScope N ps ["__class__"] (defScope st)) (hN : ps.length ≤ N.length)
    (hbody : ∀ (f cc cda D : Addr), SupF P K mg f cc cda D "self" → ClsAt K dn D → ∀ (A : Around) (outer : List PySem.Env) (s : Shared) (H : Hp) (E : XK) (n : Nat), (supX P w K mg base N x qual st cc cda f A outer s H E).A.guards = some [] → Room k (supX P w K mg base N x qual st cc cda f A outer s H E).A →
      Takes (supX P w K mg base N x qual st cc cda f A outer s H E) (yE E) → PassesOwn (model P w) (supX P w K mg base N x qual st cc cda f A outer s H E).A (supX P w K mg base N x qual st cc cda f A outer s H E).env (supX P w K mg base N x qual st cc cda f A outer s H E).xe →
      PSSA (supX P w K mg base N x qual st cc cda f A outer s H E) (defBody st) (defBody st) (denS K (yE E) (body n))) :
    PrS P w K mg base (k + 1) x qual dn st ps (fnM ps.length N.length body) := fun f fd cc cda D F S1 hc =>
  fn_denS F S hN (hbody f cc cda D S1 hc)
theorem prF (G : Pr P w K mg base k x qual st ps (fnM np nn body)) : Pr P w K mg base k x qual st ps (fnQ false np nn body) := G
theorem prT (G : Pr P w K mg base k x qual st ps (fnM np nn body)) : Pr P w K mg base k x qual st ps (fnQ true np nn body) := fun f fd F => (G f fd F).fin
theorem prsF (G : PrS P w K mg base k x qual dn st ps (fnM np nn body)) : PrS P w K mg base k x qual dn st ps (fnQ false np nn body) := G
theorem binds_of (hb : KB K fd ps n []) (e : ps.length = n) : Binds K fd ps [] := by
  intro s us X l
  have := hb.to s us [] X (by rw [List.append_nil] at l; omega) rfl
  simpa using this
/-- the rows, filled -/
theorem df_row (G : Pr P w K mg base k x x st ps (fnQ bq np nn body)) (Z : FnP K mg x st ps) (e : ps.length = np) : Df P w K mg base k x ps (fnQ bq np nn body) := by
  obtain ⟨f, fd, hm, F, hb⟩ := Z
  subst e
  exact ⟨⟨f, fd, G f fd F, hm, F.kp, hb⟩, fun n ds st h => fnQ_len h⟩
theorem ent_row (G : Pr P w K mg base k x qual st ps (fnQ bq np nn body)) {g : Addr} {fd : FuncData} (F : Fun K x qual st g fd) (hb : KB K fd ps n ks) (e : ps.length = np) : Ent P w K mg base k g np n ks (fnQ bq np nn body) := by
  subst e
  exact ⟨⟨fd, ps, rfl, G g fd F, hb⟩, fun n ds st h => fnQ_len h⟩
theorem entS_row (G : PrS P w K mg base k x qual dn st ps (fnQ bq np nn body)) {g : Addr} {fd : FuncData} {cc cda D : Addr} (F : FunS K x qual st g fd cc cda) (S : SupF P K mg g cc cda D "self") (hc : ClsAt K dn D) (hb : KB K fd ps n ks) (e : ps.length = np) : Ent P w K mg base k g np n ks (fnQ bq np nn body) := by
  subst e
  exact ⟨⟨fd, ps, rfl, G g fd cc cda D F S hc, hb⟩, fun n ds st h => fnQ_len h⟩
theorem dfk_row (G : Pr P w K mg base k x x st ps (fnQ bq np nn body)) (Z : FnKP K mg x st ps n ks) (e : ps.length = np) : DfK P w K mg base k x np n ks (fnQ bq np nn body) := by
  obtain ⟨f, fd, hm, F, hb⟩ := Z
  exact ⟨⟨f, hm, F.kp, ent_row G F hb e⟩⟩
/-- one row of a table of methods -/
abbrev MRow (P : Program) (w : World) (K : PySem.W.Frag) (mg : Str → Option Value) (base : Heap) (k : Nat) (m : Str) (np n : Nat) (ks : List Str) (c : Str) (mf : Fn) : Prop := ∃ C g, ClsAt K c C ∧ Cls K C ∧ Meth K C m g ∧ Ent P w K mg base k g np n ks mf
theorem mrow (G : Pr P w K mg base k m qual st ps (fnQ bq np nn body)) (Z : MthP K c m qual st ps n ks) {k' : Nat} (hk : k ≤ k') (e : ps.length = np) : MRow P w K mg base k' m np n ks c (fnQ bq np nn body) := by
  obtain ⟨C, g, fd, h1, h2, h3, F, hb⟩ := Z
  exact ⟨C, g, h1, h2, h3, FnG.up (ent_row G F hb e) hk⟩
theorem mrowS (G : PrS P w K mg base k m qual dn st ps (fnQ bq np nn body)) (Z : MthS P K mg c m qual dn st ps n ks) {k' : Nat} (hk : k ≤ k') (e : ps.length = np) : MRow P w K mg base k' m np n ks c (fnQ bq np nn body) := by
  obtain ⟨C, g, fd, cc, cda, D, h1, h2, h3, F, S, hc, hb⟩ := Z
  exact ⟨C, g, h1, h2, h3, FnG.up (entS_row G F S hc hb e) hk⟩
theorem tab0 : TabOk P w K mg base k m np n ks [] := ⟨fun c mf h => by cases h⟩
theorem tabC {mf : Fn} {tab : List (Str × Fn)} (h : MRow P w K mg base k m np n ks c mf) (t : TabOk P w K mg base k m np n ks tab) : TabOk P w K mg base k m np n ks ((c, mf) :: tab) := ⟨fun c' mf' l => by
  rcases look_cons l with ⟨rfl, rfl⟩ | l
  · exact h
  · exact t.ok _ _ l⟩
theorem mk_row (G : Pr P w K mg base k "__init__" qual st ps (fnQ bq np nn body)) (Z : MkP K mg c qual st ps n ks) (e : ps.length = np) : MkK P w K mg base k c np n ks (fnQ bq np nn body) := by
  obtain ⟨C, f, fd, h1, h2, h3, F, hb⟩ := Z
  exact ⟨⟨C, f, h1, h2, h3, ent_row G F hb e⟩⟩
theorem mkS_row (G : PrS P w K mg base k "__init__" qual dn st ps (fnQ bq np nn body)) (Z : MkS P K mg c qual dn st ps n ks) (e : ps.length = np) : MkK P w K mg base k c np n ks (fnQ bq np nn body) := by
  obtain ⟨C, f, fd, cc, cda, D, h1, h2, h3, F, S, hc, hb⟩ := Z
  exact ⟨⟨C, f, h1, h2, h3, entS_row G F S hc hb e⟩⟩
theorem sup0 {D : Addr} : SupTab P w K mg base k D m np n ks [] := ⟨fun c mf h => by cases h⟩
theorem supC {D : Addr} {tab : List (Str × Fn)} (hD : ClsAt K dn D) (G : Pr P w K mg base k m qual st ps (fnQ bq np nn body)) (Z : SupP K c dn m qual st ps n ks) {k' : Nat} (hk : k ≤ k') (e : ps.length = np) (t : SupTab P w K mg base k' D m np n ks tab) : SupTab P w K mg base k' D m np n ks ((c, fnQ bq np nn body) :: tab) := ⟨fun c' mf' l => by
  rcases look_cons l with ⟨rfl, rfl⟩ | l
  · obtain ⟨C, D2, g, fd, h1, h2, h3, F, hb⟩ := Z
    cases cls_uniq hD h2
    exact ⟨C, g, h1, h3, FnG.up (ent_row G F hb e) hk⟩
  · exact t.ok _ _ l⟩
theorem kbN {kV doc pm cdv ct : Value} {an : Option Addr}
    (h : ∀ (us ws : List Value), us.length = n → ws.length = ks.length → bindArgs (PySem.W.fnOf x qual (defArgs st) (defBody st) (defScope st) .none kV doc pm an cdv ct) ⟨us, ks.zip ws⟩ = pure (ps.zip (us ++ ws))) : KB K (PySem.W.fnOf x qual (defArgs st) (defBody st) (defScope st) .none kV doc pm an cdv ct) ps n ks :=
  ⟨fun s us ws X l1 l2 => .of_eq (h us ws l1 l2), fun r1 r2 => r1.append r2⟩
/-- .. of a def with defaults, all of its arguments given -/
theorem kbD {kV doc pm cdv ct : Value} {an : Option Addr} {T : Addr} {o : Obj} {its : Array Value} {m z : Nat} (lT : K.lookup T = some o) (oT : o.data = .seq its m) (hz : its.size = z)
    (h : ∀ (us ws is : List Value), us.length = n → ws.length = ks.length → is.length = z → ∃ k, bindArgs (PySem.W.fnOf x qual (defArgs st) (defBody st) (defScope st) (.ref T) kV doc pm an cdv ct) ⟨us, ks.zip ws⟩ = seqItems? (.ref T) >>= k ∧ k (some is.toArray) = pure (ps.zip (us ++ ws))) : KB K (PySem.W.fnOf x qual (defArgs st) (defBody st) (defScope st) (.ref T) kV doc pm an cdv ct) ps n ks :=
  ⟨fun s us ws X l1 l2 => BindsTo.of_looks fun M => by
    obtain ⟨is⟩ := its
    obtain ⟨k, e1, e2⟩ := h us ws is l1 l2 hz
    rw [e1]
    exact looks_items X lT oT (.of_pure e2), fun r1 r2 => r1.append r2⟩
theorem kbX {cc : Addr} {kV doc pm cdv ct : Value} {an : Option Addr}
    (h : ∀ (us ws : List Value), us.length = n → ws.length = ks.length → bindArgs (PySem.W.fnX x qual (defArgs st) (defBody st) (defScope st) [("__class__", cc)] .none kV doc pm an cdv ct) ⟨us, ks.zip ws⟩ = pure (ps.zip (us ++ ws))) : KB K (PySem.W.fnX x qual (defArgs st) (defBody st) (defScope st) [("__class__", cc)] .none kV doc pm an cdv ct) ps n ks :=
  ⟨fun s us ws X l1 l2 => .of_eq (h us ws l1 l2), fun r1 r2 => r1.append r2⟩
theorem fld0 : FldOk K f [] := fun c h => by cases h
theorem fldC {C : Addr} {cs : List Str} (h1 : ClsAt K c C) (h2 : Cls K C) (h3 : NoAttr K C f) (t : FldOk K f cs) : FldOk K f (c :: cs) := fun c' h => by
  rcases List.mem_cons.mp h with rfl | h
  · exact ⟨C, h1, h2, h3⟩
  · exact t _ h
theorem con0 {i : Int} : ConOk K f i [] := fun c h => by cases h
theorem conC {C : Addr} {cs : List Str} {i : Int} {u : Value} (h1 : ClsAt K c C) (h2 : Cls K C) (h3 : Con K C f (.int i) u) (t : ConOk K f i cs) : ConOk K f i (c :: cs) := fun c' h => by
  rcases List.mem_cons.mp h with rfl | h
  · exact ⟨C, u, h1, h2, h3⟩
  · exact t _ h
/-- a property of the class c -/
def PrpP (K : PySem.W.Frag) (c m qual : Str) (st : Stmt) : Prop := ∃ C p g fd, ClsAt K c C ∧ Cls K C ∧ PropOf K C m p g ∧ Fun K m qual st g fd ∧ KB K fd ["self"] 1 []
theorem prp0 : PropTab P w K mg base k m [] := ⟨fun c mf h => by cases h⟩
theorem prpC {tab : List (Str × Fn)} (G : Pr P w K mg base k m qual st ["self"] (fnQ bq np nn body)) (Z : PrpP K c m qual st) {k' : Nat} (hk : k ≤ k') (e : 1 = np) (t : PropTab P w K mg base k' m tab) : PropTab P w K mg base k' m ((c, fnQ bq np nn body) :: tab) := ⟨fun c' mf' l => by
  rcases look_cons l with ⟨rfl, rfl⟩ | l
  · obtain ⟨C, p, g, fd, h1, h2, h3, F, hb⟩ := Z
    subst e
    exact ⟨C, h1, h2, p, g, h3, FnG.up (ent_row G F hb rfl) hk⟩
  · exact t.ok _ _ l⟩
end
end Dn
/-! Fz: rows of isinstance, of == of own instances. -/
namespace Dn
open PySem L2 ClX StX NdefX PySem.Spec PyProof.Rows
section
variable {P : Program} {w : World} {K : PySem.W.Frag} {mg : Str → Option Value} {base : Heap} {k np n nn : Nat} {m qual x c c2 dn : Str} {st : Stmt} {ps ks : List Str} {body : Nat → M Fl} {b : Bool} {bq : Bool}
structure Blt7 (r : String → Prop) : Prop where
  a1 : r "NoneType"
  a2 : r "bool"
  a3 : r "int"
  a4 : r "str"
  a5 : r "tuple"
  a6 : r "list"
  a7 : r "dict"
theorem Blt7.all {r : String → Prop} (h : Blt7 r) : ∀ t ∈ blts, r t := by
  intro t ht
  simp only [List.mem_cons, List.not_mem_nil, or_false] at ht
  rcases ht with rfl | rfl | rfl | rfl | rfl | rfl | rfl
  · exact h.a1
  · exact h.a2
  · exact h.a3
  · exact h.a4
  · exact h.a5
  · exact h.a6
  · exact h.a7
theorem iso0 {D : Addr} (h : Blt7 fun t => PySem.W.kitOne K (.type t) (.ref D) = some false) : IsoTab K D [] := ⟨fun c b h => (by cases h), h.all⟩
theorem isoC {C D : Addr} {tab : List (Str × Bool)} (h1 : ClsAt K c C) (h2 : C8.InsC K C) (h3 : PySem.W.kitOne K (.ref C) (.ref D) = some b) (t : IsoTab K D tab) : IsoTab K D ((c, b) :: tab) := ⟨fun c' b' l => by
  rcases look_cons l with ⟨rfl, rfl⟩ | l
  · exact ⟨C, h1, h2, h3⟩
  · exact t.own _ _ l, t.blt⟩
end
end Dn
/-! Ev5: rows of kept exceptions. -/
namespace Dn
open PySem L2 ClX StX PySem.Spec PyProof.Rows
section
variable {K : PySem.W.Frag} {f c : Str} {C : Addr} {us : List Value} {b : Bool}
theorem kaT {t u : Value} {us : List Value} (h : PySem.W.kitOne K t u = some true) : PySem.W.kitAny K t (u :: us) = some true := by
  unfold PySem.W.kitAny; rw [h]
theorem kaF {t u : Value} {us : List Value} (h : PySem.W.kitOne K t u = some false) (h2 : PySem.W.kitAny K t us = some b) : PySem.W.kitAny K t (u :: us) = some b := by
  unfold PySem.W.kitAny; rw [h]; exact h2
end
/-! ### isinstance(e, (A, B)) -/
def tCs : List V → TA
  | [] => tNil
  | v :: vs => tCons (tC v) (tCs vs)
theorem tCs_ok {σ : L2.St} {H : Hp} (vs : List V) : ∀ {Q : List V → Hp → Prop}, Q vs H → tCs vs σ H Q := by
  induction vs with
  | nil => exact fun h => h
  | cons v vs ih => exact fun {Q} h => ih (Q := fun us H' => Q (v :: us) H') h
section
variable {Y : WX} {X : Cx} {ca : M PV} {pos p px : Pos}
theorem nmB {x : Str} {nm : String} (hx : X.mg x = none) (hv : bootBuiltins x = some (.type nm)) (hn : x ≠ "__name__" := by decide) (hd : (x == ("__debug__" : Str)) = false := by decide) (hgx : Gl X x := by rfl) : PE X (.Name x p) (tC (.ty nm)) := pe_bltn hgx hx hv (show RelV (.ty nm) (.type nm) from rfl) hn hd
theorem nms0 : PA X [] (tCs []) := pa_nil
theorem nmsC {e : Expr} {es : List Expr} {v : V} {vs : List V} (h : PE X e (tC v)) (hs : PA X es (tCs vs)) (h1 : starEach (e :: es) X.env = (false, eval e X.env) :: starEach es X.env := by rfl) : PA X (e :: es) (tCs (v :: vs)) := pa_cons h hs h1
end
end Dn
/-! St1: defs with a star parameter, classes made with one. -/
namespace Dn
open PySem L2 ClX StX PySem.Spec PyProof.Rows
/-- the promise of def f(a, .., *v), called by place: np values ahead of the star -/
structure FnGS (P : Program) (w : World) (K : PySem.W.Frag) (mg : Str → Option Value) (base : Heap) (CX : CXT) (k : Nat) (f : Addr) (np : Nat) (sp : Sp) : Prop where
  run : ∀ (A : Around) (outer : List PySem.Env) (s : Shared) (H : Hp) (us : List Value) (ws rest : List V) (Q : VK) (E : XK), A.guards = some [] → Room k A → Env0 P w K mg base A outer s H → Vals (ws ++ rest) us → ws.length = np → rest.length ≤ sizeLine →
    (∀ p, H p = none → sp (ws ++ [V.ref p]) (upd H p (.tup rest)) Q E) → codeAny (model P w) A (.call (.ref f) ⟨us, []⟩) (CR CX outer P w H s Q E) s
theorem FnGS.sp {P : Program} {w : World} {K : PySem.W.Frag} {mg : Str → Option Value} {base : Heap} {CX : CXT} {k : Nat} {f : Addr} {np : Nat} {sp sp' : Sp} (F : FnGS P w K mg base CX k f np sp) (h : ∀ vs H Q E, sp' vs H Q E → sp vs H Q E) : FnGS P w K mg base CX k f np sp' :=
  ⟨fun A outer s H us ws rest Q E hgd hr e0 hv hl hz q => F.run A outer s H us ws rest Q E hgd hr e0 hv hl hz fun p hp => h _ _ _ _ (q p hp)⟩
theorem FnGS.lck {P : Program} {w : World} {K : PySem.W.Frag} {mg : Str → Option Value} {base : Heap} {CX : CXT} {k : Nat} {f : Addr} {np : Nat} {sp : Sp} (F : FnGS P w K mg base CX k f np sp) : FnGS P w K mg base CX k f np (fun vs H Q E => sp vs H (lckQ Q) E) := by
  refine ⟨fun A outer s H us ws rest Q E hgd hr e0 hv hl hz q => codeAny_mono (F.run A outer s H us ws rest _ E hgd hr e0 hv hl hz q) fun res s' hq => ?_⟩
  cases res with
  | error e => exact hq
  | ok fl =>
    cases fl with
    | next => exact hq
    | brk => exact hq
    | cont => exact hq
    | ret u =>
      obtain ⟨v, H', os, b, un, ok, rv, S, q⟩ := hq
      exact ce_lock os b un ok rv q
theorem FnGS.mono {P : Program} {w : World} {K : PySem.W.Frag} {mg : Str → Option Value} {base : Heap} {CX : CXT} {j k : Nat} {f : Addr} {np : Nat} {sp : Sp} (F : FnGS P w K mg base CX j f np sp) (h : j ≤ k) : FnGS P w K mg base CX k f np sp :=
  ⟨fun A outer s H us ws rest Q E hg hr => F.run A outer s H us ws rest Q E hg (hr.mono h)⟩
end Dn
/-! St2: a class made where __init__ has a star parameter. -/
namespace Dn
open PySem L2 ClX StX PySem.Spec PyProof.Rows
end Dn
/-! St3: for a, b in .., enumerate over tuples and lists. -/
namespace PySem
open Sem (wp)
set_option maxHeartbeats 1000000 in
theorem dn_meets_enum {v : Value} {o : Obj} {H : Heap → Prop} (B : Begins v o H) :
    Meets (Builtin.«enumerate.__new__» ⟨[.type "enumerate", v], []⟩) (fun _ R s => H s.heap ∧
      R (.ok (.ret (.ref (s.heap.push o).objs.size))) { s with heap := (s.heap.push o).push { cls := .type "enumerate", data := .fields #[.none, .bool false, .ref s.heap.objs.size, rawInt 0, .none, .none] } }) :=
  .of_wp fun prog w A R s h => by
    obtain ⟨hp, g, d, tk, os⟩ := s; obtain ⟨h1, h⟩ := h
    have hsub := sub_enumerate
    have q1 : ∀ {A' : Around} {E : Value → Shared → Prop} {Q : Value → Shared → Prop}, Q (.ref hp.objs.size) ⟨hp.push o, g, d, tk, os⟩ → wpAny (model prog w) A' (pyIter v) Q E ⟨hp, g, d, tk, os⟩ :=
      fun q => B.iter prog w _ _ ⟨hp, g, d, tk, os⟩ _ h1 q
    wp_walk using q1
    refine wpAny_stack_any fun st => wpAny_pure ?_
    split
    · rename_i c _ _ _ _ _
      cases (c == Value.type "enumerate")
      · wp_walk using q1
        exact ⟨_, rfl, h⟩
      · wp_walk using q1
        exact ⟨_, rfl, h⟩
    · wp_walk using q1
      exact ⟨_, rfl, h⟩
theorem dn_call_enum {prog : Program} {w : World} {A : Around} {E : Value → Shared → Prop} {s : Shared} {v : Value} {o : Obj} {H : Heap → Prop} {Q : Value → Shared → Prop} (B : Begins v o H) (h1 : H s.heap)
    (h : ∀ h', IsEnum h' (s.heap.objs.size + 1) s.heap.objs.size 0 .none → h'.get? s.heap.objs.size = some o → h'.objs.size = s.heap.objs.size + 2 →
      (∀ b o, s.heap.get? b = some o → h'.get? b = some o) → Q (.ref (s.heap.objs.size + 1)) { s with heap := h' }) :
    wpAny (model prog w) A (call (.type "enumerate") [v]) Q E s := by
  refine callType_new F.called_enumerate (by decide) (F.typeCall_enumerate_1 _) (F.newCall_enumerate_1 _) (fun obj => F.args_object_init_2 obj _) F.entry_enumerate_new
    (dn_meets_enum B) ⟨h1, ?_⟩
  have hz : (s.heap.push o).objs.size = s.heap.objs.size + 1 := Heap.size_push ..
  show _ ∧ _
  rw [hz]
  have he : IsEnum ((s.heap.push o).push { cls := .type "enumerate", data := .fields #[.none, .bool false, .ref s.heap.objs.size, rawInt 0, .none, .none] }) (s.heap.objs.size + 1) s.heap.objs.size 0 .none := by
    have := Heap.get?_push_size (s.heap.push o) (o := { cls := .type "enumerate", data := .fields #[.none, .bool false, .ref s.heap.objs.size, rawInt 0, .none, .none] }) rfl
    rw [hz] at this; exact this
  refine ⟨⟨_, he, rfl⟩, h _ he (Heap.get?_push_of_some _ (Heap.get?_push_size _ B.free)) (by rw [Heap.size_push, hz]) fun b o x => Heap.get?_push_of_some _ (Heap.get?_push_of_some _ x)⟩
end PySem
namespace Dn
open PySem L2 ClX StX PySem.Spec PyProof.Rows
/-- the tuple at a, each item in a new pair -/
def IteT (K : PySem.W.Frag) (a : Addr) : It :=
  ⟨fun i H => ∃ (xs : List V) (x : V), SqT K H a xs ∧ xs[i]? = some x, fun i H v H' => ∃ T x, v = .ref T ∧ H T = none ∧ H' = upd H T (.tup [.int (i : Nat), x]) ∧ ∀ xs, SqT K H a xs → xs[i]? = some x, fun i H => ∃ xs : List V, SqT K H a xs ∧ xs.length ≤ i⟩
theorem turn_enumT {P : Program} {w : World} {K : PySem.W.Frag} {elts : List Expr} {kk : Nat} {tpos : Pos} (a e it : Addr) :
    Turn P w K (.Tuple elts kk tpos) (IteT K a) [e, it] e (fun i h => (∃ old, IsEnum h e it ((i : Nat) : Int) old) ∧ h.IsTupleIter it a i ∧ e ≠ it) where
  mem := by simp
  obj := fun i h st b hb => by
    obtain ⟨⟨old, he⟩, ⟨o, ho, hc, hd⟩, _⟩ := st
    have e' : b = e ∨ b = it := by simpa using hb
    rcases e' with z | z
    · rw [z]; exact ⟨_, he, fun v q => nomatch q⟩
    · rw [z]; exact ⟨o, ho, fun v q => by rw [hd] at q; cases q⟩
  keep := fun i h h' st k => let ⟨⟨old, he⟩, hi, hne⟩ := st; ⟨⟨old, k e (by simp) _ he⟩, hi.at fun o q => k it (by simp) o q, hne⟩
  item := by
    intro X hP hw hK hc i pins s σ H E I hf st hg
    subst hP hw hK
    obtain ⟨⟨old, he⟩, hit, hne⟩ := st
    obtain ⟨xs, x, hq, hx⟩ := hg
    obtain ⟨its, rv, p, hz⟩ := I.tuple hq
    obtain ⟨u, hu, ru⟩ := rv.get hx
    have hel : e < s.heap.objs.size := Heap.lt_size he
    have hil : it < s.heap.objs.size := by obtain ⟨_, q, _⟩ := hit; exact Heap.lt_size q
    have hh : X.A.in1.handled = none := I.ok.hd hc
    have pt : s.heap.IsTuple a its.toArray := p
    have hai : a ≠ it := fun z => by
      obtain ⟨o1, h1, c1, d1⟩ := hit
      obtain ⟨o2, h2, c2, _⟩ := pt
      rw [z, h1] at h2
      cases h2
      rw [c1] at c2
      exact absurd c2 (by decide)
    have hae : e ≠ a := fun z => by
      obtain ⟨o2, h2, c2, _⟩ := pt
      have he' : s.heap.get? e = _ := he
      rw [z, h2] at he'
      cases he'
      have c3 : Value.type "enumerate" = Value.type "tuple" := c2
      exact absurd c3 (by decide)
    have hlt : i < its.toArray.size := by
      have := (List.getElem?_eq_some_iff.mp hu).1
      simpa using this
    refine wpAny_pyNext_enum_itemD (Draws.tuple hh it a hai its.toArray) he ⟨hit, pt⟩ hlt hne (by simp only [List.mem_cons, not_or]; exact ⟨hne, hae, fun z => nomatch z⟩) fun y h' tk hy ho hit' hT hsz hk => ?_
    have ey : y = u := by
      have hy : its.toArray[i]? = some y := hy
      rw [List.getElem?_toArray, hu] at hy
      exact (Option.some.inj hy).symm
    subst ey
    refine ⟨_, rfl, wpAny_letOwnedTupleGo_enum (s := { s with heap := h', toks := tk + 1 }) ho fun h'' he' sb => ?_⟩
    have hT2 : h''.get? s.heap.objs.size = some { cls := .type "tuple", data := .seq #[.int i tk, y] } := (sb.2 _ (Nat.ne_of_gt hel)).trans hT
    have new : ObjOk X.prog X.w (upd H s.heap.objs.size (.tup [.int (i : Nat), x])) h'' s.heap.objs.size (.tup [.int (i : Nat), x]) :=
      ⟨by show 2 ≤ sizeLine; decide, [.int i tk, y], .cons ⟨_, rfl⟩ (.cons ru .nil), ⟨_, hT2, rfl, _, rfl⟩⟩
    have I1 : Inv X pins σ (upd H s.heap.objs.size (.tup [.int (i : Nat), x])) { s with heap := h'', toks := tk + 1 } :=
      I.turnedNew (ch := [e, it]) (fun b ob hb q => (sb.2 b (fun z => hb (by simp [z]))).trans (hk b ob (fun z => hb (by simp [z])) (fun z => hb (by simp [z])) q)) hf (Nat.le_refl _) new
    refine ⟨.ref s.heap.objs.size, _, I1, rfl, ⟨_, x, rfl, I.hok.fresh (Nat.le_refl _), rfl, fun ys hy => by rw [I.tuple_inj hy hq]; exact hx⟩, ⟨⟨y, ?_⟩, hit'.1.at fun o q => (sb.2 it (Ne.symm hne)).trans q, hne⟩, fun b hb => ?_⟩
    · have e1 : ((i + 1 : Nat) : Int) = (i : Int) + 1 := by omega
      rw [e1]; exact he'
    · have hb' : b < s.heap.objs.size := by
        have e' : b = e ∨ b = it := by simpa using hb
        rcases e' with z | z
        · rw [z]; exact hel
        · rw [z]; exact hil
      rw [upd_ne (Nat.ne_of_lt hb')]
      exact (hf b hb).1
  done := by
    intro X hP hw hK hc i pins s σ H E I hf st hg
    subst hP hw hK
    obtain ⟨⟨old, he⟩, hit, hne⟩ := st
    obtain ⟨xs, hq, hx⟩ := hg
    obtain ⟨its, rv, p, hz⟩ := I.tuple hq
    obtain ⟨f0, f1, f2, f3, f4, f5⟩ := hf it (by simp)
    have hl := rv.length
    have hh : X.A.in1.handled = none := I.ok.hd hc
    have pt : s.heap.IsTuple a its.toArray := p
    have hT : s.TypeIs (.ref e) "enumerate" := ⟨_, he, rfl⟩
    unfold pyNext
    refine wpAny_bind (wpAny_attempt (wpAny_callSpecial?_slot (name := Str.ofString "__next__") hT F.slot_enumerate_next
      (wpAny_call_entry F.slot_enumerate_next hT F.entry_enumerate_next ?_ (F.args_enumerate_next_1 _))))
    show wpAny _ _ (field (.ref e) 2 >>= _) _ _ _
    refine wpAny_bind (wpAny_field he rfl (x := .ref it) rfl ?_)
    refine wpAny_bind (wpAny_nextOf_tuple_end hh hit pt (by simp; omega) fun h' x he' hx' => ?_)
    obtain ⟨o, ho, hc'⟩ := hx'
    refine wpAny_bind (wpAny_isInstance (T := "StopIteration") (b := true) ⟨o, ho, hc'⟩ isSubtype_stop ?_)
    exact wpAny_pure ⟨rfl, I.turned (t' := s.toks) (fun b o hb q => he' b o hb q) f0 f1 f3 f4 f5⟩
  self := fun A i s Q E st h => let ⟨⟨_, he⟩, _⟩ := st; wpAny_pyIter_enum he h
def iEnumT (K : PySem.W.Frag) (ta : TA) : TI := fun σ H R => ta σ H fun vs H1 => ∃ a xs, vs = [.ref a] ∧ SqT K H1 a xs ∧ R (IteT K a) H1
theorem pi_enumT {X : Cx} {e : Expr} {ta : TA} {p pos tpos : Pos} {elts : List Expr} {kk : Nat} (hg : Gl X "enumerate") (hm : X.mg "enumerate" = none) (ha : PA X [e] ta) (hs : starEach [e] X.env = [(false, eval e X.env)] := by rfl) :
    PI X (.Tuple elts kk tpos) (.Call (.Name "enumerate" p) [e] [] pos) (iEnumT X.K ta) := by
  refine ⟨fun pins s σ H R I h => ?_⟩
  refine Call_ (ld_blt I hg hm boot_enumerate (PyProof.Rows.callWith_type1 (thn (ha.run pos pins s σ H _ I h) fun us s1 ⟨vs, H1, I1, r1, q1⟩ => ?_) hs rfl))
  obtain ⟨a, xs, ex, hq, q⟩ := q1
  subst ex
  cases r1 with
  | cons r rr =>
    cases rr
    cases r
    obtain ⟨its, rv, p', hz⟩ := I1.tuple hq
    have pt : s1.heap.IsTuple a its.toArray := p'
    refine dn_call_enum (begins_tuple a its.toArray) pt fun h' he hit hsz hk => wpAny_pyIter_enum he ?_
    have I2 : Inv X pins σ H1 { s1 with heap := h' } := I1.kept (t' := s1.toks) hk
    refine ⟨s1.heap.objs.size + 1, [s1.heap.objs.size + 1, s1.heap.objs.size], _, _, H1, rfl, I2, turn_enumT a (s1.heap.objs.size + 1) s1.heap.objs.size, ⟨⟨.none, he⟩, ⟨_, hit, rfl, rfl⟩, Nat.succ_ne_self _⟩, fun b hb => ?_, q⟩
    have e' : b = s1.heap.objs.size + 1 ∨ b = s1.heap.objs.size := by simpa using hb
    have hle : s1.heap.objs.size ≤ b := by
      rcases e' with z | z
      · rw [z]; exact Nat.le_add_right _ _
      · rw [z]; exact Nat.le_refl _
    exact I1.fpOk hle (I1.hok.fresh hle)
/-! ### enumerate as a source -/
section
variable {Y : WX} {K : PySem.W.Frag} {C : Ctx} {W W' : Vw} {σ : L2.St} {H : Hp} {s : S} {D : Ends} {ca : M PV} {fa : M Fl}
def enumL : Nat → List PV → List PV
  | _, [] => []
  | k, x :: r => .tup [.int (k : Nat), x] :: enumL (k + 1) r
theorem enumL_length : ∀ (xs : List PV) (k : Nat), (enumL k xs).length = xs.length
  | [], _ => rfl
  | _ :: r, k => congrArg Nat.succ (enumL_length r (k + 1))
theorem enumL_get : ∀ (xs : List PV) (k i : Nat) (d : PV), xs[i]? = some d → (enumL k xs)[i]? = some (.tup [.int ((k + i : Nat)), d])
  | [], _, i, _, h => by simp at h
  | x :: r, k, 0, d, h => by
    simp at h
    subst h
    rfl
  | x :: r, k, i + 1, d, h => by
    have h : r[i]? = some d := by simpa using h
    show (enumL (k + 1) r)[i]? = _
    rw [enumL_get r (k + 1) i d h]
    have : k + 1 + i = k + (i + 1) := by omega
    rw [this]
def enumP : PV → Option (List PV)
  | .lst xs => some (enumL 0 xs)
  | .tup xs => some (enumL 0 xs)
  | _ => none
def enumM (c : M PV) : M (List PV) := bnd c fun d => lft (enumP d)
theorem walks_enum {a : Addr} {vs : List V} {ds : List PV} (h : W.F a = some (.lst vs)) (r : Reps K W vs ds) : Walks K (Ite K a) W (enumL 0 ds) where
  go := fun {C W' s σ H i} l at' hi => by
    rw [enumL_length] at hi
    have e := at'.ok.sub _ _ (l.ex _ _ h)
    have hi' : i < vs.length := by rw [r.length]; exact hi
    exact ⟨vs, vs[i], SqL.of e, List.getElem?_eq_getElem hi'⟩
  yld := fun {C W' s σ H H' i x} l at' hi y => by
    obtain ⟨T, z, rfl, hT, rfl, hz⟩ := y
    have e := at'.ok.sub _ _ (l.ex _ _ h)
    have hx := hz vs (SqL.of e)
    obtain ⟨d, h1, h2⟩ := r.getV hx
    obtain ⟨W2, l2, a2, r2⟩ := at'.layT hT (Reps.cons (.int (i : Nat)) (.cons (h2.mono l) .nil))
    exact ⟨_, W2, (by rw [enumL_get ds 0 i d h1, Nat.zero_add]), l2, a2, r2⟩
  stop := fun {C W' s σ H i} l at' hi => ⟨vs, SqL.of (at'.ok.sub _ _ (l.ex _ _ h)), by rw [enumL_length] at hi; rw [r.length]; exact hi⟩
theorem walks_enumT {a : Addr} {vs : List V} {ds : List PV} (h : SqT K W.F a vs) (r : Reps K W vs ds) : Walks K (IteT K a) W (enumL 0 ds) where
  go := fun {C W' s σ H i} l at' hi => by
    rw [enumL_length] at hi
    have e := same_t at'.ok.sub (same_t l.ex h)
    have hi' : i < vs.length := by rw [r.length]; exact hi
    exact ⟨vs, vs[i], e, List.getElem?_eq_getElem hi'⟩
  yld := fun {C W' s σ H H' i x} l at' hi y => by
    obtain ⟨T, z, rfl, hT, rfl, hz⟩ := y
    have e := same_t at'.ok.sub (same_t l.ex h)
    have hx := hz vs e
    obtain ⟨d, h1, h2⟩ := r.getV hx
    obtain ⟨W2, l2, a2, r2⟩ := at'.layT hT (Reps.cons (.int (i : Nat)) (.cons (h2.mono l) .nil))
    exact ⟨_, W2, (by rw [enumL_get ds 0 i d h1, Nat.zero_add]), l2, a2, r2⟩
  stop := fun {C W' s σ H i} l at' hi => ⟨vs, same_t at'.ok.sub (same_t l.ex h), by rw [enumL_length] at hi; rw [r.length]; exact hi⟩
def iEn (K : PySem.W.Frag) (ta : TA) : TI := fun σ H R => iEnum K ta σ H R ∨ iEnumT K ta σ H R
theorem src_enum : SrcOk Y (iEn K (tCons (den K Y ca) tNil)) K (enumM ca) := by
  intro σ H R ⟨C, W, s, at', p⟩
  have p := Pst.bnd p
  cases e : ca s with
  | exc _ _ => exact .inl ⟨C, W, s, at', by rw [e] at p ⊢; exact p⟩
  | stk => rw [e] at p; exact p.elim
  | ok d s1 =>
    cases d with
    | lst xs =>
      refine .inl ⟨C, W, s, at', ?_⟩
      rw [e] at p ⊢
      intro W1 H1 l1 at1 v rv
      have p1 := p W1 H1 l1 at1 W1 H1 (Vw.Le.refl _) at1
      cases rv with
      | lst hx rx => exact ⟨_, _, rfl, SqL.of (at1.ok.sub _ _ hx), p1 _ (walks_enum hx rx)⟩
    | tup xs =>
      refine .inr ⟨C, W, s, at', ?_⟩
      rw [e] at p ⊢
      intro W1 H1 l1 at1 v rv
      have p1 := p W1 H1 l1 at1 W1 H1 (Vw.Le.refl _) at1
      cases rv with
      | tup hx rx => exact ⟨_, _, rfl, same_t at1.ok.sub hx, p1 _ (walks_enumT hx rx)⟩
    | _ =>
      refine .inl ⟨C, W, s, at', ?_⟩
      rw [e] at p ⊢
      intro W1 H1 l1 at1
      exact (p W1 H1 l1 at1).elim
theorem ienum {X : Cx} {e : Expr} {ce : M PV} {p pos tpos : Pos} {elts : List Expr} {kk : Nat} (hm : X.mg "enumerate" = none) (h : PE X e (den X.K Y ce)) (hg : Gl X "enumerate" := by rfl) (hs : starEach [e] X.env = [(false, eval e X.env)] := by rfl) :
    PI X (.Tuple elts kk tpos) (.Call (.Name "enumerate" p) [e] [] pos) (iEn X.K (tCons (den X.K Y ce) tNil)) := ⟨fun pins s σ H R I q => by
  rcases q with q | q
  · exact (pi_enum hg hm (pa_cons h pa_nil hs) hs).run pins s σ H R I q
  · exact (pi_enumT hg hm (pa_cons h pa_nil hs) hs).run pins s σ H R I q⟩
/-! ### for a, b in .. -/
def forU (is : List Nat) (body : M Fl) : List PV → M Fl
  | [] => ret .nx
  | .tup ds :: r => fun s => if ds.length = is.length then (match setAll is ds s with
    | .ok .nx s1 => (match body s1 with
      | .ok .nx s' => forU is body r s'
      | .ok .ct s' => forU is body r s'
      | .ok .bk s' => .ok .nx s'
      | .ok (.rt d) s' => .ok (.rt d) s'
      | .exc e s' => .exc e s'
      | .stk => .stk)
    | _ => .stk) else .stk
  | _ :: _ => stuck
def loopU (cs : M (List PV)) (is : List Nat) (body : M Fl) : M Fl := bnd cs fun xs => forU is body xs
theorem den_setAllQ {Q : L2.St → Hp → Prop} : ∀ (is : List Nat) (ds : List PV) {C : Ctx} {W : Vw} {s : S} {σ : L2.St} {H : Hp} {vs : List V}, At K C W s σ H → Reps K W vs ds → (match setAll is ds s with | .ok .nx s1 => ∀ σ', At K C W s1 σ' H → Q σ' H | _ => False) → gNs is vs σ H Q
  | [], [], C, W, s, σ, H, vs, a, r, p => by
    cases r
    exact ⟨rfl, p σ a⟩
  | i :: is, d :: ds, C, W, s, σ, H, vs, a, r, p => by
    cases r with
    | cons r rs => exact ⟨_, _, rfl, den_setAllQ is ds (a.set r i) rs p⟩
  | [], _ :: _, _, _, _, _, _, _, _, _, p => p.elim
  | _ :: _, [], _, _, _, _, _, _, _, _, p => p.elim
theorem den_forU {wi : TI} {is : List Nat} {cs : M (List PV)} (hw : SrcOk Y wi K cs) (h : denS K Y (loopU cs is fa) D σ H) : tFor wi (gTup K is.length (gNs is)) (denS K Y fa) D σ H := by
  obtain ⟨C, W, s, at', p⟩ := h
  refine hw σ H _ ⟨C, W, s, at', (PstS.bnd p).imp fun xs s1 W1 H1 l1 at1 p1 J wk => ?_⟩
  refine ⟨fun k m σ H => k ≤ xs.length ∧ m = xs.length - k ∧ ∃ s2 W2, W1.Le W2 ∧ At K (C.wi Y) W2 s2 σ H ∧ PstS K (C.wi Y) W2 D (forU is fa (xs.drop k) s2), ⟨xs.length, Nat.zero_le _, by simp, s1, W1, Vw.Le.refl _, at1, p1⟩, ?_⟩
  rintro k m σ2 H2 ⟨hk, rfl, s2, W2, l2, at2, p2⟩
  by_cases hlt : k < xs.length
  · refine .inr ⟨wk.go l2 at2 hlt, fun σ' H' => ∃ s2 W2, W1.Le W2 ∧ At K (C.wi Y) W2 s2 σ' H' ∧ PstS K (C.wi Y) W2 D (forU is fa (xs.drop (k + 1)) s2), fun σ' H' q => ⟨xs.length - (k + 1), by omega, hlt, rfl, q⟩, fun x H' y => ?_⟩
    obtain ⟨d, W3, hd, l3, at3, rd⟩ := wk.yld l2 at2 hlt y
    have hdrop : xs.drop k = d :: xs.drop (k + 1) := by
      obtain ⟨h1, h2⟩ := List.getElem?_eq_some_iff.mp hd
      rw [List.drop_eq_getElem_cons h1, h2]
    rw [hdrop] at p2
    have p3 := p2.up l3
    cases d with
    | tup ds =>
      unfold forU at p3
      by_cases hl : ds.length = is.length
      · simp only [hl, if_true] at p3
        cases rd with
        | tup hq rs =>
          refine ⟨_, _, rfl, same_t at3.ok.sub hq, by rw [rs.length]; exact hl, den_setAllQ _ _ at3 rs ?_⟩
          cases e0 : setAll is ds s2 with
          | exc _ _ => simp only [e0] at p3; exact p3.elim
          | stk => simp only [e0] at p3; exact p3.elim
          | ok fl0 s3 =>
            cases fl0 with
            | rt _ => simp only [e0] at p3; exact p3.elim
            | bk => simp only [e0] at p3; exact p3.elim
            | ct => simp only [e0] at p3; exact p3.elim
            | nx =>
              simp only [e0] at p3
              intro σ' a4
              refine ⟨C, W3, s3, a4, ?_⟩
              cases e : fa s3 with
              | exc _ _ => simp only [e] at p3; exact p3
              | stk => simp only [e] at p3; exact p3.elim
              | ok fl s4 =>
                simp only [e] at p3
                cases fl with
                | nx => exact fun W4 σ4 H4 l4 at4 => ⟨s4, W4, (l2.trans l3).trans l4, at4, p3.up l4⟩
                | ct => exact fun W4 σ4 H4 l4 at4 => ⟨s4, W4, (l2.trans l3).trans l4, at4, p3.up l4⟩
                | bk => exact fun W4 σ4 H4 l4 at4 => p3 W4 σ4 H4 l4 at4
                | rt r => exact fun W4 σ4 H4 l4 at4 => p3 W4 σ4 H4 l4 at4
      · simp only [hl, if_false] at p3
        exact p3.elim
    | _ => unfold forU at p3; exact p3.elim
  · have e : k = xs.length := by omega
    subst e
    rw [List.drop_length] at p2
    exact .inl ⟨wk.stop l2 at2 (Nat.le_refl _), p2 W2 σ2 H2 (Vw.Le.refl _) at2⟩
theorem sforU (is : List Nat) {X : Cx} {pt pos : Pos} {kt : Nat} {es : List Expr} {wi : TI} {cs : M (List PV)} {iter : Expr} {sa : List Stmt} (hc : X.calm = true) (hp : PassesOwn (model X.prog X.w) X.A X.env X.xe) (hi : PI X (.Tuple es kt pt) iter wi) (hw : SrcOk Y wi X.K cs) (hg : PGs X es (gNs is)) (hb : PSs X sa (denS X.K Y fa))
    (hn : (assignEach es X.env).length = is.length := by rfl) (hst : (assignEach es X.env).findIdx? (·.1) = none := by rfl) (hs : ∀ x, foldedSetIterable iter X.env x = pure x := by intro _; rfl) :
    PS X (.For (.Tuple es kt pt) iter sa [] pos) (denS X.K Y (loopU cs is fa)) := ps_imp (ps_for hp hc hi (pg_tup hc hg hn hst) hb hs) fun _ _ _ => den_forU hw
end
end Dn
/-! St4: own + and * (instances to the left). -/
namespace Dn
open PySem L2 ClX StX PySem.Spec PyProof.Rows
/-! ### operators that may raise -/
abbrev R2S := L2.St → R2
def tOpS (r : R2S) (ta tb : TE) : TE := fun σ H Q => ta σ H fun x H1 => tb σ H1 fun y H2 => r σ x y H2 Q
end Dn
/-! St5: defs and classes with a star parameter, in rows; own operators in rows. -/
namespace Dn
open PySem L2 ClX StX NdefX PySem.Spec PyProof.Rows
end Dn
namespace Dn
open PySem L2 ClX StX NdefX PySem.Spec PyProof.Rows
end Dn
/-! Tr2: classes made, their own handles dropped. -/
namespace Dn
open PySem L2 ClX StX PySem.Spec PyProof.Rows
section
variable {Y : WX} {X : Cx} {k j : Nat} {ks : List Str} {c : Str} {p pos : Pos} {e : Expr} {es : List Expr} {kws : List Keyword} {np n i : Nat} {mf : Fn} {ca cb : M (List PV)}
theorem xmakeT (n : Nat) (D : MkK X.prog X.w X.K X.mg X.base j c np i ks mf) (hgd : X.A.guards = some []) (hr : Room k X.A) (tY : Takes X Y) (hjk : j + 1 ≤ k) (ha : PA X (e :: es) (denA X.K Y ca)) (hkw : PK X kws (denA X.K Y cb)) (hg : Gl X c := by rfl) (hall : (backToKw pos (keywordEach kws X.env)).all (·.1.isSome) = true := by rfl) (hks : (backToKw pos (keywordEach kws X.env)).filterMap (·.1) = ks := by rfl)
    (hdb : (c == ("__debug__" : Str)) = false := by decide) (he : starEach (e :: es) X.env = (false, eval e X.env) :: starEach es X.env := by rfl) : PE X (.Call (.Name c p) (e :: es) kws pos) (den X.K Y (makeT c mf n (appA i ks.length ca cb))) := by
  obtain ⟨C, f, hc, hm, M, F⟩ := D.ex
  exact pe_imp (pe_lck (pe_makeG M F hgd (hr.mono hjk) tY hg hm ha hkw hall hks hdb he)) fun _ _ _ => den_makeT hc F.len
end
end Dn
/-! St6: a list of anything compared with []. -/
namespace Dn
open PySem L2 ClX StX NdefX PySem.Spec PyProof.Rows
end Dn
/-! St7: tuples turned round, range of two, x += e, min and max of a list. -/
namespace Dn
open PySem L2 ClX StX NdefX PySem.Spec PyProof.Rows
end Dn
/-! St8: x += e, x *= e of ints; min, max of a list of ints. -/
namespace Dn
open PySem L2 ClX StX NdefX PySem.Spec PyProof.Rows
end Dn
/-! St9: a, b = a list. -/
namespace Dn
open PySem L2 ClX StX NdefX PySem.Spec PyProof.Rows
end Dn
/-! St10: * of cells of any size; the law's end with the script's bits. -/
namespace Dn
open PySem L2 ClX StX NdefX PySem.Spec PyProof.Rows
theorem log_of_bits {z : Int} (h : Builtin.Int.intBits z ≤ 1048576) : z.natAbs.log2 ≤ 1048576 := by
  unfold Builtin.Int.intBits at h
  split at h
  · rename_i hz
    have : z = 0 := by simpa using hz
    subst this
    decide
  · omega
/-- * of factors of together less than a hundred million bits -/
def CMulV (i j : Int) : Prop := i.natAbs.log2 + j.natAbs.log2 < 100000000
instance (i j : Int) : Decidable (CMulV i j) := inferInstanceAs (Decidable (_ < _))
theorem CMulV.ok {i j : Int} (h : CMulV i j) : IntMulOk i j := by
  have b : ∀ x : Int, Builtin.Int.intBits x ≤ x.natAbs.log2 + 1 := fun x => by
    unfold Builtin.Int.intBits
    split <;> omega
  have h1 := b i
  have h2 := b j
  have h3 : i.natAbs.log2 + j.natAbs.log2 < 100000000 := h
  have e : bitsLine = 134217728 := by decide
  unfold IntMulOk
  intro z
  rw [Bool.and_eq_true] at z
  have z2 := z.2
  unfold Builtin.Int.intTooBig at z2
  have z3 := of_decide_eq_true z2
  rw [e] at z3
  omega
section
variable {X : Cx} {Y : WX} {K : PySem.W.Frag} {a b : Expr} {ca cb : M PV} {pos : Pos}
theorem op_mulV : OpR X (binaryOp .Mult) (rI CMulV fun i j => .int (i * j)) := opI fun _ _ _ _ _ _ _ hc q => mul_int q (CMulV.ok hc)
def mulVP : PV → PV → Option PV
  | .int a, .int b => if CMulV a b then some (.int (a * b)) else none
  | _, _ => none
abbrev opMulV (a b : PV) : M PV := lft (mulVP a b)
theorem bin_mulV : Bin (rI CMulV fun i j => .int (i * j)) K opMulV := by
  intro C W s σ H v w a b Q at' ra rb p
  obtain ⟨d, e, q⟩ := p.lft'
  have q0 := q W H (Vw.Le.refl W) at'
  unfold mulVP at e
  split at e
  · split at e
    · cases e
      cases ra.int
      cases rb.int
      exact ⟨_, _, rfl, rfl, by assumption, q0 _ (.int _)⟩
    · cases e
  · cases e
theorem xmulV (ha : PE X a (den X.K Y ca)) (hb : PE X b (den X.K Y cb)) : PE X (.BinOp a .Mult b pos) (den X.K Y (bin ca cb opMulV)) := pe_imp (pe_op op_mulV ha hb) fun _ _ _ => den_bin bin_mulV
end
end Dn
/-! St11: len() of own instances with an own `__len__`. -/
namespace Dn
open PySem L2 ClX StX PySem.Spec PyProof.Rows
section
variable {prog : Program} {w : World} {A : Around} {E : Value → Shared → Prop} {s : Shared} {K : PySem.W.Frag} {x C f : Addr} {ox : Obj} {od : Option Obj}
theorem len_own {Q : Value → Shared → Prop} (X : K.In s.heap) (I : PySem.W.InstAt s.heap x ox C od) (hs : PySem.W.findIn K (.ref C) "__len__" = some (some (.ref f))) (hf : PySem.W.isFn K (.ref f) = true)
    (h : wpAny (model prog w) A.in1 (call (.ref f) [.ref x]) (fun r s' => ∃ i t, r = .int i t ∧ 0 ≤ i ∧ i < 2 ^ 63 ∧ ∀ t' tk, Q (.int i t') { s' with toks := tk }) E s) : wpAny (model prog w) A (call (.builtin "len") [.ref x]) Q E s := by
  refine PySem.Calls.call_function_entry PySem.kind_len PySem.plain_len PySem.entry_len (PySem.args_len1 _) ?_
  unfold Builtin.«len»
  refine wpAny_bind (m := oneArg "len" _) (wpAny_pure ?_)
  refine wpAny_bind (m := callSpecial? (.ref x) (Str.ofString "__len__")) (PySem.W.special_fn X I hs (beq_iff_eq.mp hf) (wpAny_mono h (fun r s' hr => ?_) fun _ _ y => y))
  obtain ⟨i, t, rfl, h0, h1, q⟩ := hr
  refine wpAny_bind (wpAny_holding (wpAny_pure ?_))
  refine wpAny_bind (wpAny_letGo ?_)
  show wpAny _ _ (if i < 0 then _ else _) _ _ _
  rw [if_neg (by omega)]
  show wpAny _ _ (if i ≥ 2 ^ 63 then _ else _) _ _ _
  rw [if_neg (by omega)]
  exact wpAny_bind (wpAny_mkInt (wpAny_pure ⟨_, rfl, q _ _⟩))
end
/-- a def runs on values, one step deeper -/
theorem run_ent1 {Y : WX} {X : Cx} {k n : Nat} {pins : List (Addr × Obj)} {s : Shared} {σ : L2.St} {H : Hp} {g : Addr} {mf : Fn} {vs : List V} {us : List Value} {Qv : VK} (I : Inv X pins σ H s) (hgd : X.A.guards = some []) (hr : Room (k + 1) X.A) (tY : Takes X Y)
    (F : Ent X.prog X.w X.K X.mg X.base k g n n [] mf) (rv : Vals vs us) (hn : vs.length = n) (h : spM X.K n mf vs H Qv (WE Y σ)) :
    wpAny (model X.prog X.w) X.A.in1 (call (.ref g) us) (EP X pins σ Qv) X.xe s := by
  obtain ⟨fd, ps, hnp, G, hb⟩ := F.ex
  have bd := hb.to s us [] I.kIn (rv.length.symm.trans hn) rfl
  have rr := hb.rel (vs := vs) (us := us) (zs := []) (ws := []) rv .nil
  rw [List.append_nil] at rr
  have go := G.run X.A.in1 X.stack s H _ _ _ Qv (WE Y σ) hgd hr.in1 I.env0.in1 bd rr h
  refine wpAny_call (codeAny_mono go fun res s' hq => ?_)
  match res, hq with
  | .error er, hq => exact passAt tY σ pins _ _ er s' I hq
  | .ok (.ret u), hq => exact I.after hq
  | .ok .next, hq => exact False.elim hq
  | .ok .brk, hq => exact False.elim hq
  | .ok .cont, hq => exact False.elim hq
/-! ### calls of built-ins that may raise -/
def CallRS (X : Cx) (f : Value) (r : L2.St → List V → Hp → VK → Prop) : Prop :=
  ∀ (pins : List (Addr × Obj)) (s : Shared) (σ : L2.St) (H : Hp) (xs : List V) (us : List Value) (Q : VK), Inv X pins σ H s → Vals xs us → r σ xs H Q → wpAny (model X.prog X.w) X.A (call f us) (EP X pins σ Q) X.xe s
def tCBS (r : L2.St → List V → Hp → VK → Prop) (t : TA) : TE := fun σ H Q => t σ H fun vs H1 => r σ vs H1 Q
section
variable {X : Cx} {x : Str} {id : String} {e : Expr} {es : List Expr} {r : L2.St → List V → Hp → VK → Prop} {t : TA} {p pos : Pos}
theorem pe_callBS (hc : CallRS X (.builtin id) r) (hg : Gl X x) (hm : X.mg x = none) (hv : bootBuiltins x = some (.builtin id)) (ha : PA X (e :: es) t) (hn : x ≠ "__name__" := by decide) (hdb : (x == ("__debug__" : Str)) = false := by decide)
    (he : starEach (e :: es) X.env = (false, eval e X.env) :: starEach es X.env := by rfl) (hpl : (backTo pos (starEach es X.env)).any (·.1) = false := by rfl) : PE X (.Call (.Name x p) (e :: es) [] pos) (tCBS r t) := by
  refine ⟨fun pins s σ H Q I h => ?_⟩
  refine wpAny_Call_Name_kw (ld_blt I hg hm hv ?_ hn hdb)
  exact PyProof.Rows.callWith_builtin1 (thn (ha.run pos pins s σ H _ I h) fun us s1 ⟨vs, H1, I1, r1, q1⟩ => hc pins s1 σ H1 vs us Q I1 r1 q1) he hpl
end
structure LenC (K : PySem.W.Frag) (C g : Addr) : Prop where
  he : PySem.W.findIn K (.ref C) "__len__" = some (some (.ref g))
  fn : PySem.W.isFn K (.ref g) = true
structure LenTab (P : Program) (w : World) (K : PySem.W.Frag) (mg : Str → Option Value) (base : Heap) (k : Nat) (tab : List (Str × Fn)) : Prop where
  ok : ∀ c mf, tab.lookup c = some mf → ∃ C g, ClsAt K c C ∧ LenC K C g ∧ Ent P w K mg base k g 1 1 [] mf
def lenR (d : PV) : M PV := match d with
  | .int i => if 0 ≤ i ∧ i < 2 ^ 63 then ret (.int i) else stuck
  | _ => stuck
def lenO (tab : List (Str × Fn)) (n : Nat) (a : PV) : M PV := fun s => match insOf s a with
  | none => fLen a s
  | some (c, _, _) => match tab.lookup c with
    | none => .stk
    | some f => bnd (runM f n [a]) lenR s
section
variable {Y : WX} {K : PySem.W.Frag} {σ : L2.St} {H : Hp} {Q : VK} {ca : M PV}
def rLenO (P : Program) (w : World) (K : PySem.W.Frag) (mg : Str → Option Value) (base : Heap) (k : Nat) (Y : WX) : L2.St → List V → Hp → VK → Prop := fun σ xs H Q => rLen K xs H Q ∨ ∃ (a C dx : Addr) (fs : List (Str × V)) (g : Addr) (mf : Fn), xs = [.ref a] ∧ H a = some (.ins C dx fs) ∧ LenC K C g ∧ Ent P w K mg base k g 1 1 [] mf ∧
  spM K 1 mf [.ref a] H (fun y H' => ∃ i : Int, y = .int i ∧ 0 ≤ i ∧ i < 2 ^ 63 ∧ Q (.int i) H') (WE Y σ)
theorem call_lenO {X : Cx} {k : Nat} (hgd : X.A.guards = some []) (hr : Room (k + 1) X.A) (tY : Takes X Y) : CallRS X (.builtin "len") (rLenO X.prog X.w X.K X.mg X.base k Y) := by
  intro pins s σ H xs us Q I r h
  rcases h with h | ⟨a, C, dx, fs, g, mf, rfl, ha, c, F, hsp⟩
  · exact call_len pins s σ H xs us Q I r h
  · obtain ⟨u, rfl, ru⟩ := vals1 r
    obtain rfl : u = Value.ref a := ru
    obtain ⟨ox, od, J, _⟩ := StX.insC_at (C := C) I (.inr ⟨dx, fs, ha⟩)
    refine len_own I.kIn J c.he c.fn (thn (run_ent1 I hgd hr tY F (.cons (show L2.RelV (.ref a) (.ref a) from rfl) .nil) rfl hsp) fun z s' hz => ?_)
    obtain ⟨zv, H', I', rz, i, rfl, h0, h1, q⟩ := hz
    obtain ⟨t, rfl⟩ := rz
    exact ⟨i, t, rfl, h0, h1, fun t' tk => ⟨.int i, H', I'.tok _, ⟨t', rfl⟩, q⟩⟩
end
/-! ### in rows -/
def LenP (K : PySem.W.Frag) (c x qual : Str) (st : Stmt) (ps : List Str) : Prop := ∃ C g fd, ClsAt K c C ∧ LenC K C g ∧ Fun K x qual st g fd ∧ KB K fd ps 1 []
section
variable {P : Program} {w : World} {K : PySem.W.Frag} {mg : Str → Option Value} {base : Heap} {k j nn : Nat} {c x qual : Str} {st : Stmt} {ps : List Str} {body : Nat → M Fl} {np : Nat} {tab : List (Str × Fn)} {bq : Bool}
theorem len0 : LenTab P w K mg base k [] := ⟨fun c mf h => nomatch h⟩
theorem lenC (G : Pr P w K mg base j x qual st ps (fnQ bq np nn body)) (Z : LenP K c x qual st ps) (hjk : j ≤ k) (e : ps.length = np) (e2 : np = 1) (T : LenTab P w K mg base k tab) : LenTab P w K mg base k ((c, fnQ bq np nn body) :: tab) := ⟨fun d mf h => by
  rcases look_cons h with ⟨rfl, rfl⟩ | h
  · obtain ⟨C, g, fd, h1, h3, F, hb⟩ := Z
    subst e2
    exact ⟨C, g, h1, h3, FnG.up (ent_row G F hb e) hjk⟩
  · exact T.ok d mf h⟩
end
end Dn
/-! Hs1: the end of a law over the small head. -/
namespace Dn
open PySem L2 ClX StX NdefX PySem.Spec PyProof.Rows
theorem law_denE {l : PySem.W.OpenLaw} {k : Nat} {q : Program} {loose : List Str} {XP : (Str → Option Value) → Heap → Prop} {YP : World → Heap → Prop} {d : DefRec} {x : Str} {m : Fn}
    (hn : l.most = some 63) (hdf : d.params.defaults = []) (hr : Room k callerA)
    (F : ∀ (w : World) (mg : Str → Option Value) (fa : Addr) (h : Heap), YP w h → h.Ns mainGlobals mg → mg d.name = some (.ref fa) →
      ∃ K : PySem.W.Frag, K.In h ∧ ∃ fd : FuncData, (∀ (s : Shared) (u : Value), BindsTo s fd ⟨[u], []⟩ [(x, u)]) ∧
        ∀ base : Heap, K.In base → base.Ns mainGlobals mg → FnG l.prog w K mg base (L2.CX l.prog w) k fa fd [x] (spM K 1 m))
    (hm : ∀ ns : List Int, ns.length ≤ 63 → (∀ z ∈ ns, z.natAbs.log2 ≤ 1048576) → ∃ n st, m n [.scr ns] [] = .ok (.bl true) st) :
    PySem.W.WalkO q loose XP YP l.row.toRowW d [] (fun f vs => PySem.call f vs) := by
  refine Att.attach_callB hn hdf fun w s₀ s₁ mg mb fa o pm cd doc a vs ns G Y ho hd hcd hmg hobj hints hlen hbits hg => ?_
  obtain ⟨K, KX, fd, hbind, hF⟩ := F w mg fa _ Y G.T.g hmg
  have rv : Vals (ns.map V.int) vs := vals_ints hints
  have hsz : vs.length = ns.length := hints.length
  have hline : ns.length ≤ sizeLine := Nat.le_trans hlen (by decide)
  -- the abstract heap: the script alone
  obtain ⟨H, hH⟩ : ∃ H, H = scrH K a { cls := .type "list", data := .seq vs.toArray } ns := ⟨_, rfl⟩
  have only : ∀ {b u}, H b = some u → b = a ∧ K.lookup a = none ∧ u = .frz { cls := .type "list", data := .seq vs.toArray } (.lst (ns.map V.int)) := fun {b u} e => by
    rw [hH] at e
    unfold scrH at e
    split at e
    · rename_i hc
      cases e
      exact ⟨hc.1, hc.2, rfl⟩
    · cases e
  have look : ∀ {b o es ep}, s₁.heap.get? b = some o → o.data = .dict es ep → H b = none := fun {b o es ep} e ed => by
    cases z : H b with
    | none => rfl
    | some u =>
      obtain ⟨rfl, _, _⟩ := only z
      rw [hobj] at e
      cases e
      cases ed
  have hok : HOk l.prog w H s₁.heap := fun b u e => by
    obtain ⟨rfl, _, rfl⟩ := only e
    exact ⟨hobj, by rw [List.length_map]; exact hline, vs, _, rv, hobj⟩
  have hS : SqL K H a (ns.map V.int) := by
    cases hk : K.lookup a with
    | none =>
      refine .inl (.inr ⟨{ cls := .type "list", data := .seq vs.toArray }, ?_⟩)
      rw [hH]
      exact if_pos ⟨rfl, hk⟩
    | some ob =>
      have e := KX a ob hk
      rw [hobj] at e
      cases e
      exact .inr ⟨_, vs.toArray, _, hk, rfl, rfl, rfl, by rw [List.size_toArray, hsz]; exact hline, rv⟩
  have ns_in : ∀ {b m}, s₁.heap.Ns b m → (hidT s₁.heap H).Ns b m := fun {b m} ⟨o, es, ep, e, ed, r⟩ => ⟨o, es, ep, hidT_get e (look e ed), ed, r⟩
  have kin : K.In (hidT s₁.heap H) := fun b ob e => hidT_get (KX b ob e) (by
    cases z : H b with
    | none => rfl
    | some u =>
      obtain ⟨rfl, hz, _⟩ := only z
      rw [hz] at e
      cases e)
  obtain ⟨mc, n1, n2⟩ := G.T.nolimit
  have e0 : Env0 l.prog w K mg (hidT s₁.heap H) callerA [] s₁ H :=
    ⟨rfl, ⟨kin, ns_in G.T.g, ⟨mb, ns_in G.T.b, G.T.builtins⟩, ⟨mc, ns_in n1, n2⟩⟩, fun b ob e => of_hidT e, Nat.le_of_eq (hidT_size _ _), trivial, fun b hb => (nomatch hb), hok, .of_eq hg⟩
  obtain ⟨n, st, run⟩ := hm ns hlen fun z hz => log_of_bits (hbits z hz)
  have sp : spM K 1 m [.ref a] H (fun v _ => v = .bl true) (fun _ _ _ => False) := by
    refine ⟨rfl, n, ⟨H, []⟩, [], [.scr ns], ⟨Same.refl H, fun i b e => ?_, List.nodup_nil, rfl⟩, .cons (.scr hS) .nil, ?_⟩
    · exact absurd e (by simp)
    · rw [run]
      intro v W' H' _ _ _ r
      cases r
      rfl
  refine codeAny_mono ((hF _ kin (ns_in G.T.g)).run callerA [] s₁ H ⟨[.ref a], []⟩ [.ref a] [.ref a] _ _ rfl hr e0 (hbind s₁ (.ref a)) (.cons rfl .nil) sp) fun r s' hq => ?_
  cases r with
  | error e =>
    obtain ⟨_, _, _, _, _, _, _, _, _, _, _, _, w⟩ := hq
    exact w.elim
  | ok fl =>
    cases fl with
    | next => exact False.elim hq
    | brk => exact False.elim hq
    | cont => exact False.elim hq
    | ret u =>
      obtain ⟨v, H', os, bare, un, hok', ru, hv⟩ := hq
      subst hv
      obtain rfl : u = Value.bool true := ru
      refine ⟨rfl, OldK.of_keep fun b ob e => ?_, os, bare⟩
      cases z : H b with
      | none => exact un.keep b ob e z (fun q => nomatch q) (fun q => nomatch q)
      | some t =>
        obtain ⟨rfl, _, rfl⟩ := only z
        obtain ⟨k1, _⟩ := hok' b _ (un.frzs b _ _ z)
        rw [hobj] at e
        cases e
        exact k1
end Dn
/-! Dt1: dicts read: d[k], k in d, d.get; own `__getitem__` and `__contains__`; a[b] and x in y of whatever stands there. -/
namespace Dn
open PySem L2 ClX StX PySem.Spec PyProof.Rows PySem.Calls
/-- a dict's pairs -/
def dicP (st : List MO) : PV → Option (List (Key × PV))
  | .hnd n => match st[n]? with
    | some (.dic kvs) => some kvs
    | _ => none
  | .dct ks vs => some (ks.zip vs)
  | _ => none
def dttP (st : List MO) : PV → Option (List (List Key × PV))
  | .hnd n => match st[n]? with
    | some (.dtt kvs) => some kvs
    | _ => none
  | _ => none
def keyP : PV → Option Key
  | .str x => some (.inr x)
  | .int i => some (.inl i)
  | _ => none
section
variable {Y : WX} {K : PySem.W.Frag} {C : Ctx} {W W' : Vw} {σ : L2.St} {H : Hp} {s : S} {v w : V} {a b d : PV} {Q : VK} {k : Key} {ca cb cc : M PV}
theorem key_rep (r : Rep K W v d) (e : keyP d = some k) : v = kV k := by
  cases r <;> try (have e : (none : Option Key) = some k := e; cases e)
  · cases e
    rfl
  · cases e
    rfl
theorem kvs_zip : ∀ {ks : List Key} {us : List V} {vs : List PV}, ks.length = vs.length → Reps K W us vs → KVs K W (ks.zip us) (ks.zip vs)
  | [], _, [], _, .nil => .nil
  | k :: ks, _, _ :: _, hl, .cons h r => .cons h (kvs_zip (Nat.succ.inj hl) r)
  | [], _, _ :: _, hl, _ => by cases hl
  | _ :: _, _, [], hl, _ => by cases hl
theorem dic_rep {kvs : List (Key × PV)} (at' : At K C W s σ H) (r : Rep K W v d) (e : dicP s.sto d = some kvs) : ∃ x q, v = .ref x ∧ Rd H x (.dK q) ∧ KVs K W q kvs := by
  cases r <;> try (have e : (none : Option (List (Key × PV))) = some kvs := e; cases e)
  · rename_i x n hn
    unfold dicP at e
    dsimp only at e
    split at e
    · rename_i q hs
      cases e
      cases (at'.ok.live hn hs (fun z => nomatch z)).2 with
      | dic hH kv => exact ⟨x, _, rfl, .inl hH, kv⟩
    · cases e
  · rename_i x o ks us vs h hl hr
    cases e
    exact ⟨x, _, rfl, .inr ⟨o, at'.ok.sub _ _ h⟩, kvs_zip hl hr⟩
theorem dtt_rep {kvs : List (List Key × PV)} (at' : At K C W s σ H) (r : Rep K W v d) (e : dttP s.sto d = some kvs) : ∃ x q, v = .ref x ∧ H x = some (.dT q) ∧ KVs K W q kvs := by
  cases r <;> try (have e : (none : Option (List (List Key × PV))) = some kvs := e; cases e)
  rename_i x n hn
  unfold dttP at e
  dsimp only at e
  split at e
  · rename_i q hs
    cases e
    cases (at'.ok.live hn hs (fun z => nomatch z)).2 with
    | dtt hH kv => exact ⟨x, _, rfl, hH, kv⟩
  · cases e
theorem KVs.getO {κ : Type} [DecidableEq κ] : ∀ {r : List (κ × V)} {q : List (κ × PV)} {k : κ}, KVs K W r q → (valP q k = none ∧ valV r k = none) ∨ ∃ d v, valP q k = some d ∧ valV r k = some v ∧ Rep K W v d
  | _, _, k, .nil => .inl ⟨rfl, rfl⟩
  | _, _, k, .cons (k := k') (v := v) (d := d') (r := r) (s := q) h t => by
    unfold valP valV
    rw [List.find?_cons, List.find?_cons]
    by_cases hk : k' = k
    · rw [decide_eq_true (show ((k', d') : κ × PV).1 = k from hk)]
      try rw [decide_eq_true (show ((k', v) : κ × V).1 = k from hk)]
      exact .inr ⟨_, _, rfl, rfl, h⟩
    · rw [decide_eq_false (show ¬ ((k', d') : κ × PV).1 = k from hk)]
      try rw [decide_eq_false (show ¬ ((k', v) : κ × V).1 = k from hk)]
      have z := KVs.getO (k := k) t
      unfold valP valV at z
      exact z
/-- what a dict answers for a key: none where it is no dict or no key; some none where the key is not there -/
def dget (st : List MO) (a b : PV) : Option (Option PV) := match b with
  | .kt ks => (dttP st a).map fun kvs => valP kvs ks
  | b => match dicP st a, keyP b with
    | some kvs, some k => some (valP kvs k)
    | _, _ => none
inductive RepO (K : PySem.W.Frag) (W : Vw) : Option V → Option PV → Prop
  | no : RepO K W none none
  | so {v : V} {d : PV} : Rep K W v d → RepO K W (some v) (some d)
theorem dget_rep {o : Option PV} (at' : At K C W s σ H) (ra : Rep K W v a) (rb : Rep K W w b) (e : dget s.sto a b = some o) : ∃ x q, v = .ref x ∧ DGet H x w q ∧ RepO K W q o := by
  unfold dget at e
  split at e
  · rename_i ks
    obtain ⟨kvs, e1, e2⟩ := Option.map_eq_some_iff.mp e
    obtain ⟨x, q, rfl, hH, kv⟩ := dtt_rep at' ra e1
    cases rb with
    | kt hb =>
      refine ⟨x, _, rfl, DGet.t hH (at'.ok.sub _ _ hb), ?_⟩
      rcases kv.getO (k := ks) with ⟨z1, z2⟩ | ⟨d, v, z1, z2, r⟩
      · rw [z1] at e2
        rw [z2, ← e2]
        exact .no
      · rw [z1] at e2
        rw [z2, ← e2]
        exact .so r
  · split at e
    · rename_i kvs k e1 e2
      obtain ⟨x, q, rfl, hH, kv⟩ := dic_rep at' ra e1
      cases key_rep rb e2
      refine ⟨x, _, rfl, .inl ⟨_, k, hH, rfl, rfl⟩, ?_⟩
      rcases kv.getO (k := k) with ⟨z1, z2⟩ | ⟨d, v, z1, z2, r⟩
      · rw [z1] at e
        rw [z2, ← Option.some.inj e]
        exact .no
      · rw [z1] at e
        rw [z2, ← Option.some.inj e]
        exact .so r
    · cases e
end
/-! ### a[b] -/
structure GetC (K : PySem.W.Frag) (C g : Addr) : Prop where
  he : PySem.W.findIn K (.ref C) "__getitem__" = some (some (.ref g))
  fn : PySem.W.isFn K (.ref g) = true
  fi : PySem.W.fnIn K g = true
structure GetTab (P : Program) (w : World) (K : PySem.W.Frag) (mg : Str → Option Value) (base : Heap) (k : Nat) (tab : List (Str × Fn)) : Prop where
  ok : ∀ c mf, tab.lookup c = some mf → ∃ C g, ClsAt K c C ∧ GetC K C g ∧ Ent P w K mg base k g 2 2 [] mf
def subO (tab : List (Str × Fn)) (n : Nat) (a b : PV) : M PV := fun s => match insOf s a with
  | some (c, _, _) => (match tab.lookup c with
    | none => .stk
    | some f => runM f n [a, b] s)
  | none => (match dget s.sto a b with
    | some (some d) => .ok d s
    | some none => .stk
    | none => lft (ixP a b) s)
def IxRS (X : Cx) (r : R2S) : Prop :=
  ∀ (value slice : Expr) (pins : List (Addr × Obj)) (s : Shared) (σ : L2.St) (H : Hp) (x y : V) (v u : Value) (Q : VK), Inv X pins σ H s → RelV x v → RelV y u → r σ x y H Q →
    subscripted slice false v u = operate [v, u] (getItem v u) → subscripted slice true v u = runValue (.builtin "lifetime.subscript" ⟨[v, u], []⟩) → wpAny (model X.prog X.w) X.A (subscriptTail value slice v u) (EP X pins σ Q) X.xe s
theorem pe_ixS {X : Cx} {a b : Expr} {ta tb : TE} {pos : Pos} {r : R2S} (hr : IxRS X r) (ha : PE X a ta) (hb : PE X b tb) (hs : PlainIx b) (hs1 : ∀ v u, subscripted b true v u = runValue (.builtin "lifetime.subscript" ⟨[v, u], []⟩)) : PE X (.Subscript a b pos) (tOpS r ta tb) := by
  refine ⟨fun pins s σ H Q I h => ?_⟩
  exact Subscript_ (binT ha hb I h fun v u s2 x y H2 I2 rx ry q => hr a b pins s2 σ H2 x y v u Q I2 rx ry q (hs _ _) (hs1 _ _))
section
variable {prog : Program} {w : World} {A : Around} {E : Value → Shared → Prop} {s : Shared} {K : PySem.W.Frag} {x C f : Addr} {ox : Obj} {od : Option Obj}
theorem sub_own {value slice : Expr} {i : Value} {Q : Value → Shared → Prop} (X : K.In s.heap) (I : PySem.W.InstAt s.heap x ox C od) (g : GetC K C f)
    (h : wpAny (model prog w) A.in1 (call (.ref f) [.ref x, i]) Q E s)
    (hsl : subscripted slice true (.ref x) i = runValue (.builtin "lifetime.subscript" ⟨[.ref x, i], []⟩)) :
    wpAny (model prog w) A (subscriptTail value slice (.ref x) i) Q E s := by
  have hf := g.fi
  unfold PySem.W.fnIn at hf
  split at hf
  · rename_i e
    unfold subscriptTail getitemInPython
    refine wpAny_bind (wpAny_bind (wpAny_bind (I.type.here ((PySem.W.looks_findIn X g.he).here ?_))))
    dsimp only
    refine wpAny_bind (wpAny_load (X _ _ e) (wpAny_pure ?_))
    dsimp only
    rw [hsl]
    refine wpAny_bind (wpAny_runValue (codeAny_builtin PySem.W.entry_sub ?_))
    unfold Builtin.«lifetime.subscript»
    refine wpAny_bind (PySem.W.special_fn X I g.he (beq_iff_eq.mp g.fn) (wpAny_mono h (fun v s' z => ?_) fun _ _ z => z))
    refine wpAny_pure ?_
    show wpAny (model prog w) A (letTemporaryGo value (.ref x) v >>= fun _ => pure v) Q E s'
    exact wpAny_bind (wpAny_letTemporaryGo (wpAny_pure z))
  · cases hf
theorem in_own {v : Value} {Q : Bool → Shared → Prop} (X : K.In s.heap) (I : PySem.W.InstAt s.heap x ox C od) (hs : PySem.W.findIn K (.ref C) "__contains__" = some (some (.ref f))) (hf : PySem.W.isFn K (.ref f) = true)
    (h : wpAny (model prog w) A (call (.ref f) [.ref x, v]) (fun r s' => wpAny (model prog w) A (truthy r) Q E s') E s) : wpAny (model prog w) A (contains (.ref x) v) Q E s := by
  unfold contains
  refine wpAny_holding (wpAny_bind (wpAny_bind (I.type.here ((PySem.W.looks_findIn X hs).here ?_))))
  rw [if_neg (by simp)]
  exact wpAny_bind (PySem.W.unlessNone_K X I hs hf h)
end
def rDGet : R2 := fun x y H Q => ∃ a v, x = .ref a ∧ DGet H a y (some v) ∧ Q v H
theorem ix_dic {X : Cx} (hu : X.A.units + 1 < cLine) : IxR X rDGet := by
  intro value slice pins s σ H x y v u Q I rx ry h hs
  obtain ⟨a, z, rfl, g, q⟩ := h
  obtain rfl : v = Value.ref a := rx
  have hT := dict_typeIs I g
  unfold subscriptTail
  refine wpAny_bind ?_
  rw [getitemInPython_of_ne hT.not_modules]
  refine wpAny_bind (wpAny_specialOf hT PySem.F.slot_dict_getitem.lookup ?_)
  have fin : wpAny (model X.prog X.w) X.A (subscripted slice false (.ref a) u) (fun r s₃ => wpAny (model X.prog X.w) X.A (letTemporaryGo value (.ref a) r >>= fun _ => pure r) (EP X pins σ Q) X.xe s₃) X.xe s := by
    rw [hs]
    exact wpAny_operating (d_getItem hu I g ry fun w' s3 I3 rw' => wpAny_bind (wpAny_letTemporaryGo (wpAny_pure ⟨z, H, I3, rw', q⟩)))
  first
    | exact wpAny_pure (wpAny_bind fin)
    | exact wpAny_bind (wpAny_pure (wpAny_bind fin))
    | exact wpAny_bind fin
def rSubO (P : Program) (w : World) (K : PySem.W.Frag) (mg : Str → Option Value) (base : Heap) (k : Nat) (Y : WX) : R2S := fun σ x y H Q => rIx K x y H Q ∨ rDGet x y H Q ∨ ∃ (a C dx : Addr) (fs : List (Str × V)) (g : Addr) (mf : Fn), x = .ref a ∧ H a = some (.ins C dx fs) ∧ GetC K C g ∧ Ent P w K mg base k g 2 2 [] mf ∧
  spM K 2 mf [.ref a, y] H Q (WE Y σ)
theorem ix_subO {X : Cx} {Y : WX} {k : Nat} (hu : X.A.units + 1 < cLine) (hgd : X.A.guards = some []) (hr : Room (k + 1) X.A) (tY : Takes X Y) : IxRS X (rSubO X.prog X.w X.K X.mg X.base k Y) := by
  intro value slice pins s σ H x y v u Q I rx ry h hs hs1
  rcases h with h | h | ⟨a, C, dx, fs, g, mf, rfl, ha, c, F, hsp⟩
  · exact ix_seq value slice pins s σ H x y v u Q I rx ry h hs
  · exact ix_dic hu value slice pins s σ H x y v u Q I rx ry h hs
  · obtain rfl : v = Value.ref a := rx
    obtain ⟨ox, od, J, _⟩ := StX.insC_at (C := C) I (.inr ⟨dx, fs, ha⟩)
    exact sub_own I.kIn J c (run_ent1 I hgd hr tY F (.cons (show L2.RelV (.ref a) (.ref a) from rfl) (.cons ry .nil)) rfl hsp) hs1
theorem den_subO {Y : WX} {K : PySem.W.Frag} {σ : L2.St} {H : Hp} {Q : VK} {ca cb : M PV} {P : Program} {w : World} {mg : Str → Option Value} {base : Heap} {k n : Nat} {tab : List (Str × Fn)} (T : GetTab P w K mg base k tab) (h : den K Y (bin ca cb (subO tab n)) σ H Q) : tOpS (rSubO P w K mg base k Y) (den K Y ca) (den K Y cb) σ H Q := by
  obtain ⟨C, W, s, at', p⟩ := h
  refine ⟨C, W, s, at', (Pst.bnd p).imp fun a s1 W1 H1 l1 at1 p1 v rv => ⟨C, W1, s1, at1, (Pst.bnd p1).imp fun b s2 W2 H2 l2 at2 p2 u ru => ?_⟩⟩
  have rv := rv.mono l2
  unfold subO at p2
  cases e : insOf s2 a with
  | some t =>
    obtain ⟨c, ks, vs⟩ := t
    simp only [e] at p2
    cases e1 : tab.lookup c with
    | none => simp only [e1] at p2; exact p2.elim
    | some mf =>
      simp only [e1] at p2
      obtain ⟨ad, Cc, dx, us, rfl, h1, h2, _, _⟩ := insOf_rep at2 rv e
      obtain ⟨C2, g, k1, k3, F⟩ := T.ok c mf e1
      cases cls_uniq h1 k1
      exact .inr (.inr ⟨ad, _, dx, _, g, mf, rfl, h2, k3, F, sp_run F.len at2 (.cons rv (.cons ru .nil)) p2⟩)
  | none =>
    simp only [e] at p2
    cases e1 : dget s2.sto a b with
    | none =>
      simp only [e1] at p2
      exact .inl (bin_ix _ W2 s2 σ H2 v u a b Q at2 (.rep rv) (.rep ru) p2)
    | some o =>
      cases o with
      | none => simp only [e1] at p2; exact p2.elim
      | some d =>
        simp only [e1] at p2
        obtain ⟨x, q, rfl, g, r⟩ := dget_rep at2 rv ru e1
        cases r with
        | so r => exact .inr (.inl ⟨x, _, rfl, g, p2 W2 H2 (Vw.Le.refl _) at2 _ r⟩)
section
variable {Y : WX} {X : Cx} {j k : Nat} {tab : List (Str × Fn)} {a b : Expr} {p pos : Pos} {ca cb : M PV}
theorem xsubO (n : Nat) (T : GetTab X.prog X.w X.K X.mg X.base j tab) (hu : X.A.units + 128 < cLine) (hgd : X.A.guards = some []) (hr : Room k X.A) (tY : Takes X Y) (hjk : j + 1 ≤ k) (ha : PE X a (den X.K Y ca)) (hb : PE X b (den X.K Y cb)) (hs : PlainIx b := by intro _ _; rfl) (hs1 : ∀ v u, subscripted b true v u = runValue (.builtin "lifetime.subscript" ⟨[v, u], []⟩) := by intro _ _; rfl) :
    PE X (.Subscript a b pos) (den X.K Y (bin ca cb (subO tab n))) := pe_imp (pe_ixS (ix_subO (by omega) hgd (hr.mono hjk) tY) ha hb hs hs1) fun _ _ _ => den_subO T
end
/-! ### x in y -/
structure HasC (K : PySem.W.Frag) (C g : Addr) : Prop where
  he : PySem.W.findIn K (.ref C) "__contains__" = some (some (.ref g))
  fn : PySem.W.isFn K (.ref g) = true
structure HasTab (P : Program) (w : World) (K : PySem.W.Frag) (mg : Str → Option Value) (base : Heap) (k : Nat) (tab : List (Str × Fn)) : Prop where
  ok : ∀ c mf, tab.lookup c = some mf → ∃ C g, ClsAt K c C ∧ HasC K C g ∧ Ent P w K mg base k g 2 2 [] mf
def inO (tab : List (Str × Fn)) (n : Nat) (neg : Bool) (a b : PV) : M PV := fun s => match insOf s b with
  | some (c, _, _) => (match tab.lookup c with
    | none => .stk
    | some f => negR neg (runM f n [b, a]) s)
  | none => (match dget s.sto b a with
    | some o => .ok (.bl (o.isSome != neg)) s
    | none => lft (inP neg a b) s)
def rDIn (neg : Bool) : R2 := fun y x H Q => ∃ a o, x = .ref a ∧ DGet H a y o ∧ Q (.bl (o.isSome != neg)) H
def rHas (P : Program) (w : World) (K : PySem.W.Frag) (mg : Str → Option Value) (base : Heap) (k : Nat) (neg : Bool) : R2 := fun y x H Q => ∃ (a C dx : Addr) (fs : List (Str × V)) (g : Addr) (mf : Fn), x = .ref a ∧ H a = some (.ins C dx fs) ∧ HasC K C g ∧ Ent P w K mg base k g 2 2 [] mf ∧
  spM K 2 mf [.ref a, y] H (fun v H' => ∃ r, v = .bl r ∧ Q (.bl (r != neg)) H') (fun _ _ _ => False)
section
variable {X : Cx} {k : Nat}
theorem op_inDic (hu : X.A.units + 1 < cLine) : OpR X (compareOp .In) (rDIn false) := by
  intro pins s σ H y x v u Q I ry rx h
  obtain ⟨a, o, rfl, g, q⟩ := h
  obtain rfl : u = Value.ref a := rx
  refine d_in hu I g ry fun s' I' => ⟨.bl o.isSome, H, I', rfl, ?_⟩
  simpa using q
theorem op_ninDic (hu : X.A.units + 1 < cLine) : OpR X (compareOp .NotIn) (rDIn true) := by
  intro pins s σ H y x v u Q I ry rx h
  obtain ⟨a, o, rfl, g, q⟩ := h
  obtain rfl : u = Value.ref a := rx
  refine d_notIn hu I g ry fun s' I' => ⟨.bl (!o.isSome), H, I', rfl, ?_⟩
  simpa using q
theorem op_has (hgd : X.A.guards = some []) (hr : Room (k + 1) X.A) : OpR X (compareOp .In) (rHas X.prog X.w X.K X.mg X.base k false) := by
  intro pins s σ H y x v u Q I ry rx h
  obtain ⟨a, C, dx, fs, g, mf, rfl, ha, c, F, hsp⟩ := h
  obtain rfl : u = Value.ref a := rx
  obtain ⟨ox, od, J, _⟩ := StX.insC_at (C := C) I (.inr ⟨dx, fs, ha⟩)
  refine wpAny_bind (in_own (Q := fun b s' => wpAny (model X.prog X.w) X.A (pure (Value.bool b)) (EP X pins σ Q) X.xe s') I.kIn J c.he c.fn (thn (run_eq I (.inl rfl) hgd hr F (show L2.RelV (.ref a) (.ref a) from rfl) ry hsp) fun z s' hz => ?_))
  obtain ⟨zv, H', I', rz, r, rfl, q⟩ := hz
  obtain rfl : z = Value.bool r := rz
  exact wpAny_truthy_bool (wpAny_pure ⟨.bl r, H', I', rfl, by simpa using q⟩)
theorem op_nhas (hgd : X.A.guards = some []) (hr : Room (k + 1) X.A) : OpR X (compareOp .NotIn) (rHas X.prog X.w X.K X.mg X.base k true) := by
  intro pins s σ H y x v u Q I ry rx h
  obtain ⟨a, C, dx, fs, g, mf, rfl, ha, c, F, hsp⟩ := h
  obtain rfl : u = Value.ref a := rx
  obtain ⟨ox, od, J, _⟩ := StX.insC_at (C := C) I (.inr ⟨dx, fs, ha⟩)
  refine wpAny_bind (in_own (Q := fun b s' => wpAny (model X.prog X.w) X.A (pure (Value.bool (!b))) (EP X pins σ Q) X.xe s') I.kIn J c.he c.fn (thn (run_eq I (.inl rfl) hgd hr F (show L2.RelV (.ref a) (.ref a) from rfl) ry hsp) fun z s' hz => ?_))
  obtain ⟨zv, H', I', rz, r, rfl, q⟩ := hz
  obtain rfl : z = Value.bool r := rz
  exact wpAny_truthy_bool (wpAny_pure ⟨.bl (!r), H', I', rfl, by simpa using q⟩)
end
theorem bin_inO {K : PySem.W.Frag} {P : Program} {w : World} {mg : Str → Option Value} {base : Heap} {k : Nat} {tab : List (Str × Fn)} {n : Nat} {neg : Bool} {rd : R2} (T : HasTab P w K mg base k tab) (hd : Bin rd K (fun a b => lft (inP neg a b))) :
    BinV (rOr rd (rOr (rDIn neg) (rHas P w K mg base k neg))) K (inO tab n neg) := by
  intro C W s σ H v u a b Q at' ra rb p
  unfold inO at p
  cases e : insOf s b with
  | some t =>
    obtain ⟨c, ks, vs⟩ := t
    simp only [e] at p
    cases e2 : tab.lookup c with
    | none => simp only [e2] at p; exact p.elim
    | some f =>
      simp only [e2] at p
      obtain ⟨x, Cx, dx, us, rfl, h1, h2, _, _⟩ := insOf_rep at' rb e
      obtain ⟨C1, g, k1, q1, F1⟩ := T.ok c f e2
      cases cls_uniq h1 k1
      exact .inr (.inr ⟨x, _, dx, _, g, f, rfl, h2, q1, F1, neg_run F1.len at' (.cons rb (.cons ra .nil)) p⟩)
  | none =>
    simp only [e] at p
    cases e1 : dget s.sto b a with
    | none =>
      simp only [e1] at p
      exact .inl (hd C W s σ H v u a b Q at' (.rep ra) (.rep rb) p)
    | some o =>
      simp only [e1] at p
      obtain ⟨x, q, rfl, g, r⟩ := dget_rep at' rb ra e1
      have hq : q.isSome = o.isSome := by cases r <;> rfl
      exact .inr (.inl ⟨x, q, rfl, g, by rw [hq]; exact p W H (Vw.Le.refl _) at' _ (.bl _)⟩)
section
variable {X : Cx} {j k : Nat} {tab : List (Str × Fn)}
theorem k_inO (n : Nat) (T : HasTab X.prog X.w X.K X.mg X.base j tab) (hu : X.A.units + 128 < cLine) (hgd : X.A.guards = some []) (hr : Room k X.A) (hjk : j + 1 ≤ k) : CmpOkV X .In (inO tab n false) :=
  ⟨_, op_or2 (op_or2 (op_or2 op_in_seq (op_inD (by omega))) op_in_sign) (op_or2 (op_inDic (by omega)) (op_has hgd (hr.mono (by omega)))), bin_inO T bin_in⟩
theorem k_ninO (n : Nat) (T : HasTab X.prog X.w X.K X.mg X.base j tab) (hu : X.A.units + 128 < cLine) (hgd : X.A.guards = some []) (hr : Room k X.A) (hjk : j + 1 ≤ k) : CmpOkV X .NotIn (inO tab n true) :=
  ⟨_, op_or2 (op_or2 (op_or2 op_notIn_seq (op_notInD (by omega))) op_notIn_sign) (op_or2 (op_ninDic (by omega)) (op_nhas hgd (hr.mono (by omega)))), bin_inO T bin_notin⟩
end
end Dn
/-! Dt2: dict comprehensions; d[k] = v; d.get; new dicts. -/
namespace Dn
open PySem L2 ClX StX PySem.Spec PyProof.Rows PySem.Calls
/-- y = {k: v for ..} on one line, y a local name -/
theorem ps_setDc {X : Cx} {i : Nat} {y : Str} {py : Pos} {kx vx tg iter : Expr} {ifs : List Expr} {scope : Scope} {own : List (Str × Nat)} {pos spos : Pos} {wi : TI} {g : TG} {tt : TT} {tk tv : TE} (hc : X.calm = true) (hN : X.N.Nodup) (hy : X.N[i]? = some y) (hyl : X.env.scope.names.lookup y = some .local)
    (hsw : swapsWith (.DictComp kx vx [⟨tg, iter, ifs, 0⟩] scope pos) (some (.Name y py)) spos.line X.env = pure true) (hi : PI X tg iter wi) (ok : BlkOk X.N X.env.scope scope own)
    (hg : ∀ (s : Shared) (H : Hp) (C : Addr) (cl : List (Str × Addr)) (fp : List Addr), PG (X.blk s H scope (compEnvC scope cl C X.env) fp) tg g) (ht : ∀ (s : Shared) (H : Hp) (C : Addr) (cl : List (Str × Addr)) (fp : List Addr), PTs (X.blk s H scope (compEnvC scope cl C X.env) fp) ifs tt)
    (hk : ∀ (s : Shared) (H : Hp) (C : Addr) (cl : List (Str × Addr)) (fp : List Addr), PE (X.blk s H scope (compEnvC scope cl C X.env) fp) kx tk)
    (he : ∀ (s : Shared) (H : Hp) (C : Addr) (cl : List (Str × Addr)) (fp : List Addr), PE (X.blk s H scope (compEnvC scope cl C X.env) fp) vx tv) (hs : ∀ x, foldedSetIterable iter X.env x = pure x := by intro _; rfl) :
    PS X (.Assign [.Name y py] (.DictComp kx vx [⟨tg, iter, ifs, 0⟩] scope pos) spos) (tAsg (tDc wi g tt tk tv (own.map (·.2))) (gName i)) := by
  refine ⟨fun pins s σ H D I h => ?_⟩
  rw [exec_Assign_Name_used _ _ _ _ hsw]
  refine wpAny_bind (wpAny_standAt (wpAny_bind ?_))
  show wpAny _ X.A (do let _ ← comprehension (.DictComp kx vx [⟨tg, iter, ifs, 0⟩] scope pos) scope X.env (firstIterPos [⟨tg, iter, ifs, 0⟩] pos) newDict false (eval iter X.env) (some (assign (.Name y py) X.env))) _ _ s
  have h : tDc wi g tt tk tv (own.map (·.2)) σ H (fun x H1 => gName i x σ H1 D.nx) := h
  refine wpAny_bind (thn (dc_core (Qf := fun _ s' => SP X pins D .next s') hc hN I hi ok hg ht hk he hs h fun L C s' m H' I' q hn f => ?_) fun _ s' hq => wpAny_pure (wpAny_pure hq))
  show wpAny _ _ (assign (.Name y py) X.env (.ref L)) _ _ _
  refine wpAny_assign_Name (store_ok2 (v := V.ref L) I' hN hy (.inl hyl) rfl (fun s2 I2 ⟨a, sb, ha⟩ => ?_) (.inr hyl))
  obtain ⟨f0, f1, f2, f3, f4, f5⟩ := f
  have haC : C ≠ a := by
    rcases ha with z | z
    · rw [z]; exact f1
    · exact fun e => f4 y a z e.symm
  refine ⟨m, hn.sameBut sb haC, fun h3 sb3 => ?_⟩
  exact ⟨_, H', I2.turned (t' := s2.toks) (fun b o hb e => (sb3.2 b hb).trans e) f0 f1 f3 f4 f5, q⟩
theorem sw_trueD {kx vx : Expr} {gs : List Comprehension} {scope : Scope} {pos py : Pos} {y : Str} {l : Nat} {env : PySem.Env} (hk : env.scope.kind = .function) (hy : env.scope.names.lookup y = some .local) (hl : (py.line == pos.line) = true)
    (ha : (scope.names.any fun (n, k) => n == y && (k == .local || k == .cell)) = false) : swapsWith (.DictComp kx vx gs scope pos) (some (.Name y py)) l env = pure true := by
  have ky : env.kindOf y = some .local := hy
  have hb : env.blockKind = .function := by unfold Env.blockKind; rw [hk]; rfl
  unfold swapsWith
  simp only [hb, ky, ha, Expr.pos, hl]
  rfl
/-! ### {k: v for x in xs if t}: a new handle -/
def dcGo (i : Nat) (vs : List Nat) (cond : M Bool) (ck cv : M PV) : List PV → List (Key × PV) → M (List (Key × PV))
  | [], acc => ret acc
  | x :: r, acc => fun s => match cond { s with env := s.env.set i (some (.val x)) } with
    | .ok true s1 => match ck s1 with
      | .ok y s2 => match cv s2 with
        | .ok z s3 => match keyP y with
          | some k => if acc.length < sizeLine then dcGo i vs cond ck cv r (putP acc k z) { s3 with env := wip s3.env vs } else .stk
          | none => .stk
        | .exc _ _ => .stk
        | .stk => .stk
      | .exc _ _ => .stk
      | .stk => .stk
    | .ok false s1 => dcGo i vs cond ck cv r acc { s1 with env := wip s1.env vs }
    | .exc _ _ => .stk
    | .stk => .stk
def dcL (cs : M (List PV)) (i : Nat) (vs : List Nat) (cond : M Bool) (ck cv : M PV) : M (List (Key × PV)) := bnd cs fun xs s => dcGo i vs cond ck cv xs [] { s with env := wip s.env vs }
/-- a new dict's handle -/
def hndM (c : M (List (Key × PV))) : M PV := bnd c fun kvs s => .ok (.hnd s.sto.length) { s with sto := s.sto ++ [.dic kvs] }
/-- an expression that makes a new dict, nobody's yet -/
def denD (K : PySem.W.Frag) (Y : WX) (c : M (List (Key × PV))) : TE := fun σ H Q => ∃ (C : Ctx) (W : Vw) (s : S), At K (C.wi Y) W s σ H ∧ Pst K (C.wi Y) W σ (c s) (fun ds _ W' H' => ∀ p vs, H' p = none → KVs K W' vs ds → Q (.ref p) (upd H' p (.dK vs)))
section
variable {Y : WX} {K : PySem.W.Frag} {C : Ctx} {W W' : Vw} {σ : L2.St} {H : Hp} {s : S} {v w : V} {a b d : PV} {Q : VK} {k : Key} {ca cb cc : M PV}
theorem den_hnd {c : M (List (Key × PV))} (h : den K Y (hndM c) σ H Q) : denD K Y c σ H Q := by
  obtain ⟨C, W, s, at', p⟩ := h
  refine ⟨C, W, s, at', (Pst.bnd p).imp fun kvs s1 W1 H1 l1 at1 p1 x vs hx r => ?_⟩
  obtain ⟨l2, at2, r2⟩ := at1.newH hx r
  exact p1 _ _ l2 at2 _ r2
theorem den_dc {Y' : WX} {wi : TI} {cs : M (List PV)} {vs : List Nat} {cond : M Bool} {ck cv : M PV} {i : Nat} (hw : SrcOk Y wi K cs) (hi : i ∈ vs) (h : denD K Y (dcL cs i vs cond ck cv) σ H Q) : tDc wi (gName i) (denT K Y' cond) (den K Y' ck) (den K Y' cv) vs σ H Q := by
  obtain ⟨C, W, s, at', p⟩ := h
  refine hw σ H _ ⟨C, W, s, at', (Pst.bnd p).imp fun xs s1 W1 H1 l1 at1 p1 J wk => ?_⟩
  intro D hD
  obtain ⟨hG, hh⟩ := at1.nohs hD
  let WD : List (Key × PV) → S → Vw → Hp → Prop := fun ds _ W' H' => ∀ p vs, H' p = none → KVs K W' vs ds → Q (.ref p) (upd H' p (.dK vs))
  refine ⟨fun k m H => k ≤ xs.length ∧ m = xs.length - k ∧ ∃ acc accV s2 W2, W1.Le W2 ∧ At K ((C.wi Y).res D (.dK accV)) W2 s2 (wipe σ vs) H ∧ wip s2.env vs = s2.env ∧ KVs K W2 accV acc ∧ Pst K (C.wi Y) W2 σ (dcGo i vs cond ck cv (xs.drop k) acc s2) WD,
    ⟨xs.length, Nat.zero_le _, by simp, [], [], _, W1, Vw.Le.refl _, (at1.resIn hD (.dK [])).wipeS vs, wip_wip _ _, .nil, p1⟩, ?_⟩
  rintro k m H2 ⟨hk, rfl, acc, accV, s2, W2, l2, at2, hw2, ra, p2⟩
  by_cases hlt : k < xs.length
  · refine .inr ⟨wk.go l2 at2 hlt, fun H' => ∃ acc accV s2 W2, W1.Le W2 ∧ At K ((C.wi Y).res D (.dK accV)) W2 s2 (wipe σ vs) H' ∧ wip s2.env vs = s2.env ∧ KVs K W2 accV acc ∧ Pst K (C.wi Y) W2 σ (dcGo i vs cond ck cv (xs.drop (k + 1)) acc s2) WD,
      fun H' q => ⟨xs.length - (k + 1), by omega, hlt, rfl, q⟩, fun x H' y => ?_⟩
    obtain ⟨d, W3, hd, l3, at3, rd⟩ := wk.yld l2 at2 hlt y
    have hdrop : xs.drop k = d :: xs.drop (k + 1) := by
      obtain ⟨h1, h2⟩ := List.getElem?_eq_some_iff.mp hd
      rw [List.drop_eq_getElem_cons h1, h2]
    rw [hdrop] at p2
    have at4 : At K ((C.wi Y).res D (.dK accV)) W3 { s2 with env := s2.env.set i (some (.val d)) } ((wipe σ vs).set i (some x)) H' := at3.set rd i
    have hw' : ∀ {τ : L2.St}, τ = (wipe σ vs).set i (some x) → wipe τ vs = wipe σ vs := by
      intro τ e
      subst e
      apply wipe_ext
      · rw [List.length_set, wipe_length]
      · intro j hj
        rw [List.getElem?_set_ne (fun z => hj (by rw [← z]; exact hi)), wipe_out hj]
    have toWipe : ∀ {C' : Ctx} {W' : Vw} {s' : S} {H' : Hp}, At K C' W' s' ((wipe σ vs).set i (some x)) H' → At K C' W' { s' with env := wip s'.env vs } (wipe σ vs) H' := fun {C' W' s' H'} a =>
      a.weak (wip_length _ _) (by rw [List.length_set]) fun j sv e => ⟨(wip_some e).1, by rw [List.getElem?_set_ne (fun z => (wip_some e).2 (by rw [← z]; exact hi))]⟩
    refine ⟨hw' rfl, C.res D (.dK accV), W3, _, at4.wi Y', ?_⟩
    have p3 : Pst K (C.wi Y) W3 σ (dcGo i vs cond ck cv (d :: xs.drop (k + 1)) acc s2) WD := p2.up l3
    cases ec : cond { s2 with env := s2.env.set i (some (.val d)) } with
    | exc e s3 =>
      unfold dcGo at p3
      simp only [ec] at p3
      exact p3.elim
    | stk =>
      unfold dcGo at p3
      simp only [ec] at p3
      exact p3.elim
    | ok b s3 =>
      intro W4 H4 l4 at5'
      have at5 : At K ((C.wi Y).res D (.dK accV)) W4 s3 _ H4 := at5'.wi Y
      cases b with
      | false =>
        unfold dcGo at p3
        simp only [ec] at p3
        show ∃ acc accV s2 W2, _
        exact ⟨acc, accV, _, W4, (l2.trans l3).trans l4, toWipe at5, wip_wip _ _, ra.mono (l3.trans l4), p3.up l4⟩
      | true =>
        unfold dcGo at p3
        simp only [ec] at p3
        show den K Y' ck _ H4 _
        refine ⟨C.res D (.dK accV), W4, s3, at5', ?_⟩
        cases ek : ck s3 with
        | exc e s4 => simp only [ek] at p3; exact p3.elim
        | stk => simp only [ek] at p3; exact p3.elim
        | ok y4 s4 =>
          simp only [ek] at p3
          intro W5 H5 l5 at6' vk rk
          show den K Y' cv _ H5 _
          refine ⟨C.res D (.dK accV), W5, s4, at6', ?_⟩
          cases ee : cv s4 with
          | exc e s5 => simp only [ee] at p3; exact p3.elim
          | stk => simp only [ee] at p3; exact p3.elim
          | ok z5 s5 =>
            simp only [ee] at p3
            intro W6 H6 l6 at7' v rv
            have at7 : At K ((C.wi Y).res D (.dK accV)) W6 s5 _ H6 := at7'.wi Y
            have hHD : H6 D = some (.dK accV) := at7.keep D _ upd_same hh
            split at p3
            · rename_i kk hkk
              split at p3
              · rename_i hsz
                refine ⟨accV, kk, key_rep rk hkk, hHD, by rw [ra.length]; exact hsz, putP acc kk z5, putK accV kk v, _, W6, (((l2.trans l3).trans l4).trans l5).trans l6, ?_, wip_wip _ _, (ra.mono (((l3.trans l4).trans l5).trans l6)).put rv, p3.up ((l4.trans l5).trans l6)⟩
                have at8 := toWipe at7
                obtain ⟨e1, e2, at9⟩ := at8.resOut hG hh
                have at10 := at9.resIn e1 (.dK (putK accV kk v))
                have e3 : upd (del H6 D) D (.dK (putK accV kk v)) = upd H6 D (.dK (putK accV kk v)) := by
                  rw [← e2, upd_upd, e2]
                rw [e3] at at10
                exact at10
              · exact p3.elim
            · exact p3.elim
  · have e : k = xs.length := by omega
    subst e
    refine .inl ⟨wk.stop l2 at2 (Nat.le_refl _), ?_⟩
    rw [List.drop_length] at p2
    obtain ⟨e1, e2, at3⟩ := at2.resOut hG hh
    have at4 := at3.unwipe
    rw [hw2] at at4
    have q := p2 W2 _ (Vw.Le.refl _) at4 D accV e1 ra
    rw [e2] at q
    exact q
/-- d[k] = v -/
def dputM (cd ck cv : M PV) : M Fl := bnd cv fun v => bnd cd fun a => bnd ck fun b => fun s => match a with
  | .hnd n => (match s.sto[n]? with
    | some (.dic kvs) => (match keyP b with
      | some k => if kvs.length < sizeLine then .ok .nx { s with sto := s.sto.set n (.dic (putP kvs k v)) } else .stk
      | none => .stk)
    | some (.dtt kvs) => (match b with
      | .kt ks => if kvs.length < sizeLine then .ok .nx { s with sto := s.sto.set n (.dtt (putP kvs ks v)) } else .stk
      | _ => .stk)
    | _ => .stk)
  | _ => .stk
theorem den_dput {D : Ends} {cd ck cv : M PV} (h : denS K Y (dputM cd ck cv) D σ H) : sDPut (den K Y cd) (den K Y ck) (den K Y cv) D σ H := by
  obtain ⟨C, W, s, at', p⟩ := h
  refine ⟨C, W, s, at', (PstS.bnd p).imp fun v s1 W1 H1 l1 at1 p1 x rx => ⟨C, W1, s1, at1, (PstS.bnd p1).imp fun a s2 W2 H2 l2 at2 p2 y ry => ⟨C, W2, s2, at2, (PstS.bnd p2).imp fun b s3 W3 H3 l3 at3 p3 z rz => ?_⟩⟩⟩
  cases a <;> try exact p3.elim
  rename_i n
  have ry := ry.mono l3
  cases ry with
  | hnd hx =>
    rename_i ad
    dsimp only at p3
    split at p3
    · rename_i kvs hs
      split at p3
      · rename_i k hk
        split at p3
        · rename_i hl
          cases key_rep rz hk
          cases (at3.ok.live hx hs (fun z => nomatch z)).2 with
          | dic hH kv =>
            refine ⟨ad, _, rfl, DPut.k (k := k) hH (by rw [kv.length]; exact hl), ?_⟩
            exact p3 W3 _ _ (Vw.Le.refl _) (at3.put hx hs (fun z => nomatch z) (kv.put (rx.mono (l2.trans l3))))
        · exact p3.elim
      · exact p3.elim
    · rename_i kvs hs
      split at p3
      · rename_i ks
        split at p3
        · rename_i hl
          cases rz with
          | kt hb =>
            cases (at3.ok.live hx hs (fun z => nomatch z)).2 with
            | dtt hH kv =>
              refine ⟨ad, _, rfl, DPut.t hH (at3.ok.sub _ _ hb) (by rw [kv.length]; exact hl), ?_⟩
              exact p3 W3 _ _ (Vw.Le.refl _) (at3.putG hx hs (fun z => nomatch z) (.dtt upd_same (kv.put (rx.mono (l2.trans l3)))))
        · exact p3.elim
      · exact p3.elim
    · exact p3.elim
theorem RepO.getD {o : Option V} {q : Option PV} {u : V} {d : PV} (r : RepO K W o q) (ru : Rep K W u d) : Rep K W (o.getD u) (q.getD d) := by
  cases r with
  | no => exact ru
  | so h => exact h
end
section
variable {Y : WX} {X : Cx} {j k : Nat} {a b c d : Expr} {p pos spos px : Pos} {ca cb cd ck cv cx ce tc : M PV}
theorem xdc (i : Nat) {x : Str} {kx vx iter : Expr} {ifs : List Expr} {scope : Scope} {own : List (Str × Nat)} {wi : TI} {cs : M (List PV)} {tc : M Bool} (hc : X.calm = true) (nd : X.N.Nodup) (hi : PI X (.Name x px) iter wi) (hw : SrcOk Y wi X.K cs) (ok : BlkOk X.N X.env.scope scope own) (hio : i ∈ own.map (·.2))
    (hg : ∀ (s : Shared) (H : Hp) (C : Addr) (cl : List (Str × Addr)) (fp : List Addr), PG (X.blk s H scope (compEnvC scope cl C X.env) fp) (.Name x px) (gName i)) (ht : ∀ (s : Shared) (H : Hp) (C : Addr) (cl : List (Str × Addr)) (fp : List Addr), PTs (X.blk s H scope (compEnvC scope cl C X.env) fp) ifs (denT X.K yF tc))
    (hk : ∀ (s : Shared) (H : Hp) (C : Addr) (cl : List (Str × Addr)) (fp : List Addr), PE (X.blk s H scope (compEnvC scope cl C X.env) fp) kx (den X.K yF ck))
    (he : ∀ (s : Shared) (H : Hp) (C : Addr) (cl : List (Str × Addr)) (fp : List Addr), PE (X.blk s H scope (compEnvC scope cl C X.env) fp) vx (den X.K yF cv)) (hs : ∀ x, foldedSetIterable iter X.env x = pure x := by intro _; rfl) :
    PE X (.DictComp kx vx [⟨.Name x px, iter, ifs, 0⟩] scope pos) (den X.K Y (hndM (dcL cs i (own.map (·.2)) tc ck cv))) := pe_imp (pe_dc hc nd hi ok hg ht hk he hs) fun _ _ _ h => den_dc hw hio (den_hnd h)
theorem sdc (l i : Nat) {y x : Str} {py : Pos} {kx vx iter : Expr} {ifs : List Expr} {scope : Scope} {own : List (Str × Nat)} {wi : TI} {cs : M (List PV)} {tc : M Bool} (hc : X.calm = true) (nd : X.N.Nodup) (hi : PI X (.Name x px) iter wi) (hw : SrcOk Y wi X.K cs) (ok : BlkOk X.N X.env.scope scope own) (hio : i ∈ own.map (·.2))
    (hg : ∀ (s : Shared) (H : Hp) (C : Addr) (cl : List (Str × Addr)) (fp : List Addr), PG (X.blk s H scope (compEnvC scope cl C X.env) fp) (.Name x px) (gName i)) (ht : ∀ (s : Shared) (H : Hp) (C : Addr) (cl : List (Str × Addr)) (fp : List Addr), PTs (X.blk s H scope (compEnvC scope cl C X.env) fp) ifs (denT X.K yF tc))
    (hk : ∀ (s : Shared) (H : Hp) (C : Addr) (cl : List (Str × Addr)) (fp : List Addr), PE (X.blk s H scope (compEnvC scope cl C X.env) fp) kx (den X.K yF ck))
    (he : ∀ (s : Shared) (H : Hp) (C : Addr) (cl : List (Str × Addr)) (fp : List Addr), PE (X.blk s H scope (compEnvC scope cl C X.env) fp) vx (den X.K yF cv)) (hy : X.N[l]? = some y := by rfl) (hyl : X.env.scope.names.lookup y = some .local := by rfl)
    (hsw : swapsWith (.DictComp kx vx [⟨.Name x px, iter, ifs, 0⟩] scope pos) (some (.Name y py)) spos.line X.env = pure true := by exact sw_trueD rfl rfl rfl (by kernel_rfl)) (hs : ∀ x, foldedSetIterable iter X.env x = pure x := by intro _; rfl) :
    PS X (.Assign [.Name y py] (.DictComp kx vx [⟨.Name x px, iter, ifs, 0⟩] scope pos) spos) (denS X.K Y (asgM l (hndM (dcL cs i (own.map (·.2)) tc ck cv)))) :=
  ps_imp (ps_setDc hc nd hy hyl hsw hi ok hg ht hk he hs) fun D σ H h => by
    obtain ⟨C, W, s, at', p⟩ := h
    refine (den_dc hw hio ⟨C, W, s, at', ?_⟩ : tDc wi (gName i) _ _ _ _ σ H (fun x H1 => gName l x σ H1 D.nx))
    have q1 := PstS.bnd (σ := σ) p
    have q2 := Pst.bnd (σ := σ) q1
    exact q2.imp fun kvs s1 W1 H1 l1 at1 p1 q vs hq rvs => by
      obtain ⟨l2, at2, r2⟩ := at1.newH hq rvs
      exact p1 _ _ l2 at2 _ _ _ (Vw.Le.refl _) (at2.set r2 l)
theorem sdput (hu : X.A.units + 128 < cLine) {key v : Expr} {p2 : Pos} (hd : PE X d (den X.K Y cd)) (hk : PE X key (den X.K Y ck)) (hv : PE X v (den X.K Y cv)) (hs : swapsWith v (some (.Subscript d key p2)) pos.line X.env = pure false := by rfl) :
    PS X (.Assign [.Subscript d key p2] v pos) (denS X.K Y (dputM cd ck cv)) := ps_imp (ps_dput (by omega) hd hk hv hs) fun _ _ _ => den_dput
end
end Dn
/-! Dt3: dicts walked, sorted, counted, copied; displays; keys. -/
namespace Dn
open PySem L2 ClX StX PySem.Spec PyProof.Rows PySem.Calls
theorem callR_or {X : Cx} {f : Value} {r r' : List V → Hp → VK → Prop} (h : CallR X f r) (h' : CallR X f r') : CallR X f (fun xs H Q => r xs H Q ∨ r' xs H Q) := by
  intro pins s σ H xs us Q I rv q
  rcases q with q | q
  · exact h pins s σ H xs us Q I rv q
  · exact h' pins s σ H xs us Q I rv q
theorem callRS_or {X : Cx} {f : Value} {r r' : L2.St → List V → Hp → VK → Prop} (h : CallRS X f r) (h' : CallRS X f r') : CallRS X f (fun σ xs H Q => r σ xs H Q ∨ r' σ xs H Q) := by
  intro pins s σ H xs us Q I rv q
  rcases q with q | q
  · exact h pins s σ H xs us Q I rv q
  · exact h' pins s σ H xs us Q I rv q
section
variable {Y : WX} {K : PySem.W.Frag} {C : Ctx} {W W' : Vw} {σ : L2.St} {H : Hp} {s : S} {v w : V} {a b d : PV} {Q : VK} {k : Key} {ca cb cc : M PV}
theorem RdV.dic {kvs : List (Key × PV)} (at' : At K C W s σ H) (r : RdV K W H v d) (e : dicP s.sto d = some kvs) : ∃ x q, v = .ref x ∧ Rd H x (.dK q) ∧ KVs K W q kvs := by
  cases r with
  | rep r => exact dic_rep at' r e
  | own => cases e
theorem KVs.keys : ∀ {q : List (Key × V)} {kvs : List (Key × PV)}, KVs K W q kvs → q.map (·.1) = kvs.map (·.1)
  | _, _, .nil => rfl
  | _, _, .cons _ t => by rw [List.map_cons, List.map_cons, KVs.keys t]
def keyV : Key → PV
  | .inl i => .int i
  | .inr x => .str x
theorem keyV_rep (k : Key) : Rep K W (kV k) (keyV k) := by
  cases k with
  | inl i => exact .int i
  | inr x => exact .str x
/-! ### walked -/
def itemsD : PV → Option (List PV)
  | .lst xs => some xs
  | .tup xs => some xs
  | .str x => some (signsP x)
  | .dct ks _ => some (ks.map keyV)
  | _ => none
def itemsDM (c : M PV) : M (List PV) := bnd c fun d => lft (itemsD d)
theorem walks_keys {a : Addr} {o : Obj} {kvs : List (Key × V)} {ks : List Key} (h : W.F a = some (.frz o (.dK kvs))) (e : kvs.map (·.1) = ks) : Walks K (Itk a o kvs) W (ks.map keyV) where
  go := fun {C W' s σ H i} l at' hi => by
    subst e
    rw [List.length_map, List.length_map] at hi
    exact ⟨at'.ok.sub _ _ (l.ex _ _ h), hi⟩
  yld := fun {C W' s σ H H' i x} l at' hi y => by
    subst e
    obtain ⟨e1, k, v, h1, h2⟩ := y
    subst e1 h2
    refine ⟨keyV k, W', ?_, Vw.Le.refl _, at', keyV_rep k⟩
    rw [List.getElem?_map, List.getElem?_map, h1]
    rfl
  stop := fun {C W' s σ H i} l at' hi => by
    subst e
    rw [List.length_map, List.length_map] at hi
    exact ⟨at'.ok.sub _ _ (l.ex _ _ h), hi⟩
def iUD (K : PySem.W.Frag) (te : TE) : TI := fun σ H R => iU K te σ H R ∨ iKeys te σ H R
theorem pi_ud {X : Cx} {tg e : Expr} {te : TE} (h : PE X e te) : PI X tg e (iUD X.K te) := ⟨fun pins s σ H R I q => by
  rcases q with q | q
  · exact (pi_u h).run pins s σ H R I q
  · exact (pi_keys h).run pins s σ H R I q⟩
theorem src_ud : SrcOk Y (iUD K (den K Y ca)) K (itemsDM ca) := by
  intro σ H R ⟨C, W, s, at', p⟩
  have p0 := Pst.bnd p
  by_cases hd : ∃ ks vs s1, ca s = .ok (.dct ks vs) s1
  · obtain ⟨ks, vs, s1, e⟩ := hd
    refine .inr ⟨C, W, s, at', ?_⟩
    rw [e] at p0 ⊢
    intro W1 H1 l1 at1 v rv
    have p1 := p0 W1 H1 l1 at1 W1 H1 (Vw.Le.refl _) at1
    cases rv with
    | dct hx hl rx => exact ⟨_, _, rfl, .inl ⟨_, at1.ok.sub _ _ hx, p1 _ (walks_keys hx (by
        rw [List.map_fst_zip]
        rw [rx.length]
        omega))⟩⟩
  · refine .inl (src_u σ H R ⟨C, W, s, at', ?_⟩)
    unfold itemsM
    unfold itemsDM at p
    unfold Dn.bnd at p ⊢
    cases e : ca s with
    | stk => rw [e] at p; exact p.elim
    | exc x s1 => rw [e] at p; exact p
    | ok d s1 =>
      rw [e] at p
      cases d <;> first | exact p | exact absurd ⟨_, _, _, e⟩ hd
theorem iud {X : Cx} {tg e : Expr} (h : PE X e (den X.K Y ca)) : PI X tg e (iUD X.K (den X.K Y ca)) := pi_ud h
/-! ### len -/
def lenU (tab : List (Str × Fn)) (n : Nat) (a : PV) : M PV := fun s => match insOf s a with
  | some _ => lenO tab n a s
  | none => match dicP s.sto a with
    | some kvs => .ok (.int kvs.length) s
    | none => fLen a s
def rLenD : List V → Hp → VK → Prop := fun xs H Q => ∃ (a : Addr) (kvs : List (Key × V)), xs = [.ref a] ∧ Rd H a (.dK kvs) ∧ Q (.int kvs.length) H
theorem call_lenD {X : Cx} : CallR X (.builtin "len") rLenD := by
  intro pins s σ H xs us Q I r h
  obtain ⟨a, kvs, rfl, e, q⟩ := h
  obtain ⟨u, rfl, ru⟩ := vals1 r
  obtain rfl : u = Value.ref a := ru
  exact d_len I e fun t s' I' => ⟨.int kvs.length, H, I', ⟨t, rfl⟩, q⟩
theorem den_lenU {P : Program} {w : World} {mg : Str → Option Value} {base : Heap} {k n : Nat} {tab : List (Str × Fn)} (T : LenTab P w K mg base k tab) (h : den K Y (bnd ca (lenU tab n)) σ H Q) : tCBS (fun σ xs H Q => rLenO P w K mg base k Y σ xs H Q ∨ rLenD xs H Q) (tCons (den K Y ca) tNil) σ H Q := by
  obtain ⟨C, W, s, at', p⟩ := h
  refine ⟨C, W, s, at', (Pst.bnd p).imp fun a s1 W1 H1 l1 at1 p1 v rv => ?_⟩
  unfold lenU at p1
  cases e : insOf s1 a with
  | some t =>
    simp only [e] at p1
    have hh : den K Y (bnd (ret a) (lenO tab n)) σ H1 Q := ⟨C, W1, s1, at1, p1⟩
    obtain ⟨c, ks, vs⟩ := t
    unfold lenO at p1
    simp only [e] at p1
    cases e1 : tab.lookup c with
    | none => simp only [e1] at p1; exact p1.elim
    | some mf =>
      simp only [e1] at p1
      obtain ⟨ad, Cc, dx, us, rfl, h1, h2, _, _⟩ := insOf_rep at1 rv e
      obtain ⟨C2, g, k1, k3, F⟩ := T.ok c mf e1
      cases cls_uniq h1 k1
      refine .inl (.inr ⟨ad, _, dx, _, g, mf, rfl, h2, k3, F, ?_⟩)
      refine sp_run F.len at1 (.cons rv .nil) ((Pst.bnd p1).imp fun d s2 W2 H2 l2 at2 p2 y ry => ?_)
      unfold lenR at p2
      split at p2
      · split at p2
        · cases ry
          exact ⟨_, rfl, by omega, by omega, p2 W2 H2 (Vw.Le.refl W2) at2 _ (.int _)⟩
        · exact p2.elim
      · exact p2.elim
  | none =>
    simp only [e] at p1
    cases e1 : dicP s1.sto a with
    | none =>
      simp only [e1] at p1
      exact .inl (.inl (fn_len _ W1 s1 σ H1 v a Q at1 (.rep rv) p1))
    | some kvs =>
      simp only [e1] at p1
      obtain ⟨x, q, rfl, hH, kv⟩ := dic_rep at1 rv e1
      refine .inr ⟨x, q, rfl, hH, ?_⟩
      rw [kv.length]
      exact p1 W1 H1 (Vw.Le.refl _) at1 _ (.int _)
/-! ### sorted -/
def txtKeys : List Key → Option (List Str)
  | [] => some []
  | .inr x :: ks => (txtKeys ks).map (x :: ·)
  | .inl _ :: _ => none
theorem txtKeys_ok : ∀ {ks : List Key} {zs : List Str}, txtKeys ks = some zs → ks = zs.map Sum.inr
  | [], _, e => by cases e; rfl
  | .inr x :: ks, zs, e => by
    obtain ⟨ys, e1, rfl⟩ := Option.map_eq_some_iff.mp (show (txtKeys ks).map (x :: ·) = some zs from e)
    rw [txtKeys_ok e1]
    rfl
  | .inl _ :: _, _, e => by cases e
def fSortU (a : PV) : M (List PV) := fun s => match dicP s.sto a with
  | some kvs => (match txtKeys (kvs.map (·.1)) with
    | some zs => if zs.length < 64 then .ok ((sortS zs).map .str) s else .stk
    | none => .stk)
  | none => fSort a s
end
end Dn
/-! Dt4: sorted and min of whatever; isinstance against several built-in types; dict(..); displays; keys; pop(); a, b = [..], e. -/
namespace Dn
open PySem L2 ClX StX PySem.Spec PyProof.Rows PySem.Calls
section
variable {Y : WX} {K : PySem.W.Frag} {C : Ctx} {W W' : Vw} {σ : L2.St} {H : Hp} {s : S} {v w : V} {a b d : PV} {Q : VK} {k : Key} {ca cb cc : M PV}
/-! ### sorted -/
def rSortDic : List V → Hp → VK → Prop := fun xs H Q => ∃ (a : Addr) (kvs : List (Key × V)) (ks : List Str), xs = [.ref a] ∧ Rd H a (.dK kvs) ∧ kvs.map (·.1) = ks.map Sum.inr ∧ ks.length < 64 ∧
    ∀ ys p, ys.Perm ks → sortedS ys = true → H p = none → Q (.ref p) (upd H p (.lst (ys.map V.str)))
theorem fn_sortU : Fn1O (fun xs H Q => rSortU K xs H Q ∨ rSortDic xs H Q) K fSortU := by
  intro C W s σ H v a Q at' ra p
  unfold fSortU at p
  cases e1 : dicP s.sto a with
  | none =>
    simp only [e1] at p
    exact .inl (fn_sort C W s σ H v a Q at' ra p)
  | some kvs =>
    simp only [e1] at p
    split at p
    · rename_i zs hz
      split at p
      · rename_i hl
        obtain ⟨x, q, rfl, hH, kv⟩ := ra.dic at' e1
        have ek := txtKeys_ok hz
        refine .inr ⟨x, q, zs, rfl, hH, by rw [kv.keys]; exact ek, hl, fun ys p' hp hs hn => ?_⟩
        rw [sortS_of hp hs]
        exact p W H (Vw.Le.refl _) at' p' _ hn (Reps.strs _)
      · exact p.elim
    · exact p.elim
/-! ### min of texts -/
/-! ### isinstance against several built-in types -/
def kitBs (t : String) : List String → Option Bool
  | [] => some false
  | n :: ns => match kitB t n with
    | some true => some true
    | some false => kitBs t ns
    | none => none
def isiTM (nms : List String) (d : PV) : M PV := fun s => match tyS s d with
  | some t => (match kitBs t nms with
    | some b => .ok (.bl b) s
    | none => .stk)
  | none => .stk
theorem kit_tys {t : String} : ∀ {nms : List String} {b : Bool}, kitBs t nms = some b → PySem.W.kitAny K (.type t) (nms.map Value.type) = some b
  | [], b, e => by cases e; rfl
  | n :: ns, b, e => by
    unfold kitBs at e
    rw [List.map_cons]
    split at e
    · rename_i h
      cases e
      exact kaT (kit_ty h)
    · rename_i h
      exact kaF (kit_ty h) (kit_tys e)
    · cases e
theorem clsV_tys : ∀ nms : List String, Paired ClsV (nms.map V.ty) (nms.map Value.type)
  | [] => .nil
  | n :: ns => .cons (.ty n) (clsV_tys ns)
theorem den_isiT {nms : List String} (hz : nms.length ≤ sizeLine) (h : den K Y (bnd ca (isiTM nms)) σ H Q) : tCB (rIsiT K) (tCons (den K Y ca) (tCons (tTup (tCs (nms.map V.ty))) tNil)) σ H Q := by
  obtain ⟨C, W, s, at', p⟩ := h
  refine ⟨C, W, s, at', (Pst.bnd p).imp fun d s1 W1 H1 l1 at1 p1 v rv => ?_⟩
  refine tCs_ok _ ⟨by rw [List.length_map]; exact hz, fun q hq => ?_⟩
  obtain ⟨l2, at2⟩ := at1.lay hq (.tup (nms.map V.ty))
  unfold isiTM at p1
  split at p1
  · rename_i t ht
    split at p1
    · rename_i b hb
      exact ⟨v, q, _, .type t, _, b, rfl, upd_same, clsV_tys nms, tyS_rep at2 (rv.mono l2) ht, kit_tys hb, p1 _ _ l2 at2 _ (.bl b)⟩
    · exact p1.elim
  · exact p1.elim
/-! ### dict(..): a new dict -/
def pairP : PV → Option (Key × PV)
  | .tup [k, v] => (keyP k).map fun k => (k, v)
  | _ => none
def pairsP : List PV → Option (List (Key × PV))
  | [] => some []
  | d :: ds => match pairP d, pairsP ds with
    | some p, some ps => some (p :: ps)
    | _, _ => none
def fDict (a : PV) : M (List (Key × PV)) := fun s => match dicP s.sto a with
  | some kvs => .ok kvs s
  | none => match a with
    | .lst ds => (match pairsP ds with
      | some kvs => .ok (mergeP [] kvs) s
      | none => .stk)
    | _ => .stk
def rDictD : List V → Hp → VK → Prop := fun xs H Q => ∃ (a : Addr) (kvs : List (Key × V)), xs = [.ref a] ∧ Rd H a (.dK kvs) ∧ ∀ p, H p = none → Q (.ref p) (upd H p (.dK kvs))
def rDictP (K : PySem.W.Frag) : List V → Hp → VK → Prop := fun xs H Q => ∃ (a : Addr) (ps : List Addr) (kvs : List (Key × V)), xs = [.ref a] ∧ SqL K H a (ps.map V.ref) ∧ Paired (fun p kv => SqT K H p [kV kv.1, kv.2]) ps kvs ∧ ∀ p, H p = none → Q (.ref p) (upd H p (.dK (mergeK [] kvs)))
theorem pairs_rep : ∀ {vs : List V} {ds : List PV} {kvs : List (Key × PV)}, Reps K W vs ds → pairsP ds = some kvs → ∃ ps q, vs = ps.map V.ref ∧ Paired (fun p kv => SqT K W.F p [kV kv.1, kv.2]) ps q ∧ KVs K W q kvs
  | _, _, kvs, .nil, e => by
    cases e
    exact ⟨[], [], rfl, .nil, .nil⟩
  | _, _, kvs, .cons (d := d) h r, e => by
    unfold pairsP at e
    split at e
    · rename_i p ps e1 e2
      cases e
      obtain ⟨qs, q, rfl, pr, kv⟩ := pairs_rep r e2
      unfold pairP at e1
      split at e1
      · rename_i k v
        obtain ⟨kk, e3, rfl⟩ := Option.map_eq_some_iff.mp e1
        cases h with
        | @tup a vs _ hq rs =>
          cases rs with
          | cons r1 rs =>
            cases rs with
            | cons r2 rs =>
              cases rs
              cases key_rep r1 e3
              exact ⟨a :: qs, (kk, _) :: q, rfl, .cons hq pr, .cons r2 kv⟩
      · cases e1
    · cases e
theorem den_fnD {r : List V → Hp → VK → Prop} {f : PV → M (List (Key × PV))} (hf : ∀ (C : Ctx) (W : Vw) (s : S) (σ : L2.St) (H : Hp) (v : V) (a : PV) (Q : VK), At K C W s σ H → Rep K W v a → Pst K C W σ (f a s) (fun ds _ W' H' => ∀ p vs, H' p = none → KVs K W' vs ds → Q (.ref p) (upd H' p (.dK vs))) → r [v] H Q)
    (h : denD K Y (bnd ca f) σ H Q) : tCB r (tCons (den K Y ca) tNil) σ H Q := by
  obtain ⟨C, W, s, at', p⟩ := h
  exact ⟨C, W, s, at', (Pst.bnd p).imp fun a s1 W1 H1 l1 at1 p1 v rv => hf _ W1 s1 σ H1 v a Q at1 rv p1⟩
theorem fn_dict (C : Ctx) (W : Vw) (s : S) (σ : L2.St) (H : Hp) (v : V) (a : PV) (Q : VK) (at' : At K C W s σ H) (ra : Rep K W v a) (p : Pst K C W σ (fDict a s) (fun ds _ W' H' => ∀ p vs, H' p = none → KVs K W' vs ds → Q (.ref p) (upd H' p (.dK vs)))) : rDictD [v] H Q ∨ rDictP K [v] H Q := by
  unfold fDict at p
  split at p
  · rename_i kvs e
    obtain ⟨x, q, rfl, hH, kv⟩ := dic_rep at' ra e
    exact .inl ⟨x, q, rfl, hH, fun p' hp => p W H (Vw.Le.refl _) at' p' _ hp kv⟩
  · split at p
    · rename_i ds
      split at p
      · rename_i kvs e
        cases ra with
        | lst hx rx =>
          obtain ⟨ps, q, rfl, pr, kv⟩ := pairs_rep rx e
          refine .inr ⟨_, ps, q, rfl, SqL.of (at'.ok.sub _ _ hx), ?_, fun p' hp => p W H (Vw.Le.refl _) at' p' _ hp (kv.merge .nil)⟩
          have go : ∀ {ps : List Addr} {q : List (Key × V)}, Paired (fun p kv => SqT K W.F p [kV kv.1, kv.2]) ps q → Paired (fun p kv => SqT K H p [kV kv.1, kv.2]) ps q := by
            intro ps q h
            induction h with
            | nil => exact .nil
            | cons h t ih => exact .cons (same_t at'.ok.sub h) ih
          exact go pr
      · exact p.elim
    · exact p.elim
/-! ### displays with any keys -/
/-! ### (a, b) as a key -/
/-! ### xs.pop() -/
end
section
variable {Y : WX} {X : Cx} {j k : Nat} {a b c d e : Expr} {p pos spos px : Pos} {ca cb cd ck cv cx ce tc : M PV}
theorem osortU (hc : X.calm = true) (hm : X.mg "sorted" = none) (ha : PE X e (den X.K Y ce)) (hg : Gl X "sorted" := by rfl) (he : starEach [e] X.env = (false, eval e X.env) :: starEach [] X.env := by rfl) : PE X (.Call (.Name "sorted" p) [e] [] pos) (denO X.K Y (bnd ce fSortU)) := ob (callR_or cr_sortU (call_sortedD hc)) fn_sortU bo_sorted hm ha hg (he := he)
theorem xisiT {es : List Expr} {kk : Nat} {nms : List String} (hm : X.mg "isinstance" = none) (ha : PE X a (den X.K Y ca)) (he : PA X es (tCs (nms.map V.ty))) (hz : nms.length ≤ sizeLine := by decide) (hg : Gl X "isinstance" := by rfl)
    (h1 : starEach [a, .Tuple es kk p] X.env = (false, eval a X.env) :: starEach [.Tuple es kk p] X.env := by rfl) (h2 : starEach [.Tuple es kk p] X.env = (false, eval (.Tuple es kk p) X.env) :: starEach [] X.env := by rfl) (hpl : (backTo pos (starEach [.Tuple es kk p] X.env)).any (·.1) = false := by rfl) :
    PE X (.Call (.Name "isinstance" px) [a, .Tuple es kk p] [] pos) (den X.K Y (bnd ca (isiTM nms))) := pe_imp (pe_callB call_isiT hg hm PyProof.Rows.Boot.«isinstance» (pa_cons ha (pa_cons (pe_tup he) pa_nil h2) h1) (by decide) (by decide) h1 hpl) fun _ _ _ => den_isiT hz
theorem xdict (hc : X.calm = true) (hm : X.mg "dict" = none) (ha : PE X e (den X.K Y ce)) (hg : Gl X "dict" := by rfl) (he : starEach [e] X.env = (false, eval e X.env) :: starEach [] X.env := by rfl) (hpl : (backTo pos (starEach [] X.env)).any (·.1) = false := by rfl) : PE X (.Call (.Name "dict" p) [e] [] pos) (den X.K Y (hndM (bnd ce fDict))) :=
  pe_imp (pe_callTy (callR_or call_dictD (call_dictP hc)) hg hm PyProof.Rows.Boot.«dict» (pa_cons ha pa_nil he) (by decide) (by decide) he hpl) fun _ _ _ h => den_fnD fn_dict (den_hnd h)
end
end Dn
/-! Dt5: a, b = [..], e; nested patterns; is of truth values; while of an own list; rows of own getitem and contains. -/
namespace Dn
open PySem L2 ClX StX PySem.Spec PyProof.Rows PySem.Calls
section
variable {Y : WX} {K : PySem.W.Frag} {C : Ctx} {W W' : Vw} {σ : L2.St} {H : Hp} {s : S} {v w : V} {a b d : PV} {Q : VK} {k : Key} {ca cb cc : M PV} {D : Ends}
def par2OV' (i j : Nat) (ca : M (List PV)) (cb : M PV) : M Fl := bnd ca fun a => bnd cb fun b => bnd (setO i a) fun _ => bnd (setV j b) fun _ => ret .nx
theorem den_par2OV {i j : Nat} {ca : M (List PV)} {cb : M PV} (h : denS K Y (par2OV' i j ca cb) D σ H) : tPar i j (tCons (denO K Y ca) (tCons (den K Y cb) tNil)) D σ H := by
  obtain ⟨C, W, s, at', p⟩ := h
  refine ⟨C, W, s, at', (PstS.bnd p).imp fun xs s1 W1 H1 l1 at1 p1 a vs ha rvs => ?_⟩
  obtain ⟨hG, hh⟩ := at1.nohs ha
  have p2 : Pst K (C.wi Y) W1 σ (cb s1) _ := PstS.bnd p1
  refine ⟨C.res a (.lst vs), W1, s1, at1.resIn ha (.lst vs), (p2.res hG hh).imp fun y s2 W2 H2 l2 at2 p3 w rw' => ?_⟩
  obtain ⟨e1, e2, at3⟩ := at2.resOut hG hh
  have at4 := at3.setO e1 (rvs.mono l2) i
  rw [e2] at at4
  exact ⟨_, _, rfl, p3 W2 _ _ (Vw.Le.refl _) (at4.set rw' j)⟩
end
section
variable {Y : WX} {X : Cx} {j k : Nat} {a b c d e : Expr} {p pos spos px : Pos} {ca cb cd ck cv cx ce tc : M PV}
theorem spar2OV (i j : Nat) {x y : Str} {kt k2 : Nat} {py pt pt2 : Pos} {ca : M (List PV)} (hc : X.calm = true) (nd : X.N.Nodup) (ha : PE X a (denO X.K Y ca)) (hb : PE X b (den X.K Y cb)) (hi : X.N[i]? = some x := by rfl) (hj : X.N[j]? = some y := by rfl) (hij : i ≠ j := by decide)
    (hx : X.env.scope.names.lookup x = some .local := by rfl) (hy : X.env.scope.names.lookup y = some .local := by rfl) (hw : swappedStores [.Tuple [.Name x px, .Name y py] kt pt] (.Tuple [a, b] k2 pt2) X.env = pure (some [x, y]) := by rfl)
    (hs : swapsWithSole [.Tuple [.Name x px, .Name y py] kt pt] (.Tuple [a, b] k2 pt2) pos.line X.env = pure false := by rfl) (h1 : starEach [a, b] X.env = (false, eval a X.env) :: starEach [b] X.env := by rfl) (h2 : starEach [b] X.env = (false, eval b X.env) :: starEach [] X.env := by rfl) :
    PS X (.Assign [.Tuple [.Name x px, .Name y py] kt pt] (.Tuple [a, b] k2 pt2) pos) (denS X.K Y (par2OV' i j ca cb)) := ps_imp (ps_par hc nd hi hj hij hx hy (pa_cons ha (pa_cons hb pa_nil h2) h1) hw hs) fun _ _ _ => den_par2OV
theorem xlenU {tab : List (Str × Fn)} (n : Nat) (T : LenTab X.prog X.w X.K X.mg X.base j tab) (hgd : X.A.guards = some []) (hr : Room k X.A) (tY : Takes X Y) (hjk : j + 1 ≤ k) (hm : X.mg "len" = none) (ha : PE X e (den X.K Y ce)) (hg : Gl X "len" := by rfl) (he : starEach [e] X.env = (false, eval e X.env) :: starEach [] X.env := by rfl) :
    PE X (.Call (.Name "len" p) [e] [] pos) (den X.K Y (bnd ce (lenU tab n))) := pe_imp (pe_callBS (callRS_or (call_lenO hgd (hr.mono hjk) tY) (fun pins s σ H xs us Q I rv q => call_lenD pins s σ H xs us Q I rv q)) hg hm bo_len (pa_cons ha pa_nil he) (he := he)) fun _ _ _ => den_lenU T
end
/-! ### in rows -/
def GetP (K : PySem.W.Frag) (c x qual : Str) (st : Stmt) (ps : List Str) : Prop := ∃ C g fd, ClsAt K c C ∧ GetC K C g ∧ Fun K x qual st g fd ∧ KB K fd ps 2 []
def HasP (K : PySem.W.Frag) (c x qual : Str) (st : Stmt) (ps : List Str) : Prop := ∃ C g fd, ClsAt K c C ∧ HasC K C g ∧ Fun K x qual st g fd ∧ KB K fd ps 2 []
section
variable {P : Program} {w : World} {K : PySem.W.Frag} {mg : Str → Option Value} {base : Heap} {k j nn : Nat} {c x qual : Str} {st : Stmt} {ps : List Str} {body : Nat → M Fl} {np : Nat} {tab : List (Str × Fn)} {bq : Bool}
theorem get0 : GetTab P w K mg base k [] := ⟨fun c mf h => nomatch h⟩
theorem getC (G : Pr P w K mg base j x qual st ps (fnQ bq np nn body)) (Z : GetP K c x qual st ps) (hjk : j ≤ k) (e : ps.length = np) (e2 : np = 2) (T : GetTab P w K mg base k tab) : GetTab P w K mg base k ((c, fnQ bq np nn body) :: tab) := ⟨fun d mf h => by
  rcases look_cons h with ⟨rfl, rfl⟩ | h
  · obtain ⟨C, g, fd, h1, h3, F, hb⟩ := Z
    subst e2
    exact ⟨C, g, h1, h3, FnG.up (ent_row G F hb e) hjk⟩
  · exact T.ok d mf h⟩
theorem has0 : HasTab P w K mg base k [] := ⟨fun c mf h => nomatch h⟩
theorem hasC (G : Pr P w K mg base j x qual st ps (fnQ bq np nn body)) (Z : HasP K c x qual st ps) (hjk : j ≤ k) (e : ps.length = np) (e2 : np = 2) (T : HasTab P w K mg base k tab) : HasTab P w K mg base k ((c, fnQ bq np nn body) :: tab) := ⟨fun d mf h => by
  rcases look_cons h with ⟨rfl, rfl⟩ | h
  · obtain ⟨C, g, fd, h1, h3, F, hb⟩ := Z
    subst e2
    exact ⟨C, g, h1, h3, FnG.up (ent_row G F hb e) hjk⟩
  · exact T.ok d mf h⟩
end
end Dn
/-! Dt6: < <= > >= of ints or texts. -/
namespace Dn
open PySem L2 ClX StX PySem.Spec PyProof.Rows PySem.Calls
def ordU (f : Int → Int → Bool) (g : Str → Str → Bool) : PV → PV → Option PV
  | .int a, .int b => some (.bl (f a b))
  | .str a, .str b => some (.bl (g a b))
  | _, _ => none
def rS0 (g : Str → Str → Bool) : R2 := fun x y H Q => ∃ i j, x = .str i ∧ y = .str j ∧ Q (.bl (g i j)) H
section
variable {K : PySem.W.Frag} {X : Cx}
theorem bin_ordU {f : Int → Int → Bool} {g : Str → Str → Bool} : Bin (rOr (rI0 fun i j => .bl (f i j)) (rS0 g)) K (fun a b => lft (ordU f g a b)) := by
  intro C W s σ H v w a b Q at' ra rb p
  obtain ⟨d, e, q⟩ := p.lft'
  have q0 := q W H (Vw.Le.refl W) at'
  unfold ordU at e
  split at e
  · cases e
    cases ra.int
    cases rb.int
    exact .inl ⟨_, _, rfl, rfl, q0 _ (.bl _)⟩
  · cases e
    cases ra.str
    cases rb.str
    exact .inr ⟨_, _, rfl, rfl, q0 _ (.bl _)⟩
  · cases e
abbrev ltU (x y : Str) : Bool := decide (x.cps.toList < y.cps.toList)
abbrev opLtU (a b : PV) : M PV := lft (ordU (fun i j => decide (i < j)) (fun x y => ltU x y) a b)
abbrev opLeU (a b : PV) : M PV := lft (ordU (fun i j => decide (i ≤ j)) (fun x y => !ltU y x) a b)
abbrev opGtU (a b : PV) : M PV := lft (ordU (fun i j => decide (j < i)) (fun x y => ltU y x) a b)
abbrev opGeU (a b : PV) : M PV := lft (ordU (fun i j => decide (j ≤ i)) (fun x y => !ltU x y) a b)
theorem k_ltU : CmpOk X .Lt opLtU := ⟨_, op_or2 op_lt op_lt_str, bin_ordU⟩
theorem k_leU : CmpOk X .LtE opLeU := ⟨_, op_or2 op_le op_le_str, bin_ordU⟩
theorem k_gtU : CmpOk X .Gt opGtU := ⟨_, op_or2 op_gt op_gt_str, bin_ordU⟩
theorem k_geU : CmpOk X .GtE opGeU := ⟨_, op_or2 op_ge op_ge_str, bin_ordU⟩
end
end Dn
/-! Dt7: a list repeated, kept as an own list. -/
namespace Dn
open PySem L2 ClX StX PySem.Spec PyProof.Rows PySem.Calls
def repP : PV → PV → Option (List PV)
  | .lst a, .int k => if (-(2 ^ 63) ≤ k ∧ k < 2 ^ 63) ∧ a.length * k.toNat ≤ sizeLine then some (List.replicate k.toNat a).flatten else none
  | _, _ => none
def repO (ca cb : M PV) : M (List PV) := bnd ca fun a => bnd cb fun b => lft (repP a b)
section
variable {K : PySem.W.Frag} {X : Cx} {Y : WX} {ca cb : M PV} {σ : L2.St} {H : Hp} {Q : VK} {a b : Expr} {pos : Pos}
theorem denO_rep (h : denO K Y (repO ca cb) σ H Q) : tOp (rOr (rI CMulW fun i j => .int (i * j)) rRep) (den K Y ca) (den K Y cb) σ H Q := by
  obtain ⟨C, W, s, at', p⟩ := h
  refine ⟨C, W, s, at', (Pst.bnd p).imp fun a s1 W1 H1 l1 at1 p1 v rv => ⟨C, W1, s1, at1, (Pst.bnd p1).imp fun b s2 W2 H2 l2 at2 p2 w rw' => ?_⟩⟩
  have ra : RdV K W2 H2 v a := .rep (rv.mono l2)
  have rb : RdV K W2 H2 w b := .rep rw'
  obtain ⟨d, e, q⟩ := p2.lft'
  have q0 := q W2 H2 (Vw.Le.refl W2) at2
  unfold repP at e
  split at e
  · split at e
    · rename_i hl
      cases e
      obtain ⟨x, vs, rfl, hx, rx⟩ := ra.lst at2.ok.sub
      cases rb.int
      exact .inr ⟨x, _, vs, rfl, rfl, hx, hl.1.1, hl.1.2, by rw [rx.length]; exact hl.2, fun p hp => q0 p _ hp (rx.rep _)⟩
    · cases e
  · cases e
theorem omul (ha : PE X a (den X.K Y ca)) (hb : PE X b (den X.K Y cb)) : PE X (.BinOp a .Mult b pos) (denO X.K Y (repO ca cb)) := pe_imp (pe_op (op_or2 op_mulW op_rep) ha hb) fun _ _ _ => denO_rep
end
end Dn
/-! Tg: a module's tuple of texts read. -/
namespace Dn
open PySem L2 ClX StX NdefX PySem.Spec PyProof.Rows
end Dn
/-! Sv1: methods with a star parameter. -/
namespace Dn
open PySem L2 ClX StX NdefX PySem.Spec PyProof.Rows
end Dn
/-! Sv2: a chain as a test; the values of an own dict, key by key. -/
namespace Dn
open PySem L2 ClX StX NdefX PySem.Spec PyProof.Rows
/-! ### [d[k] for k in d] -/
section
variable {K : PySem.W.Frag} {W W' : Vw} {a : Addr}
theorem KVs.split {κ : Type} : ∀ {us : List (κ × V)} {ds : List (κ × PV)}, KVs K W us ds → Reps K W (us.map (·.2)) (ds.map (·.2)) ∧ us = (ds.map (·.1)).zip (us.map (·.2)) ∧ us.length = ds.length
  | _, _, .nil => ⟨.nil, rfl, rfl⟩
  | _, _, .cons (k := k) (v := v) (d := d) (r := r) (s := s) q t => by
    obtain ⟨h1, h2, h3⟩ := KVs.split t
    refine ⟨.cons q h1, ?_, by rw [List.length_cons, List.length_cons, h3]⟩
    show (k, v) :: r = (k, v) :: ((s.map (·.1)).zip (r.map (·.2)))
    rw [← h2]
end
end Dn
/-! Sv3: calls that leave out keyword-only arguments with defaults. -/
namespace Dn
open PySem L2 ClX StX NdefX PySem.Spec PyProof.Rows
section
variable {X : Cx} {Y : WX} {k j np : Nat} {x : Str} {f : Addr} {fd : FuncData} {ps : List Str} {sp : Sp} {e : Expr} {es : List Expr} {p pos : Pos} {t : TA} {dvs : List V} {ds : List Value} {CX : CXT}
theorem pe_callGD {E : L2.St → XK} (F : FnG X.prog X.w X.K X.mg X.base CX k f fd ps sp) (hgd : X.A.guards = some []) (hr : Room k X.A) (hg : Gl X x) (hm : X.mg x = some (.ref f)) (hk : PySem.W.keepIn X.K (.ref f) = true) (hb : Binds X.K fd ps ds) (hd : Vals dvs ds) (hx : ∀ σ, PassesAt CX X σ (E σ))
    (ha : PA X (e :: es) t) (hdb : (x == ("__debug__" : Str)) = false := by decide) (he : starEach (e :: es) X.env = (false, eval e X.env) :: starEach es X.env := by rfl) (hpl : (backTo pos (starEach es X.env)).any (·.1) = false := by rfl) :
    PE X (.Call (.Name x p) (e :: es) [] pos) (tCallSD sp dvs E t) := by
  refine ⟨fun pins s σ H Q I h => wpAny_Call_Name_kw (ld_glob I hg hm ?_ hdb)⟩
  have I0 := I.ok.mod.kin
  refine PySem.W.callWith_K (h₀ := X.base) I0 hk (thn (ha.run pos pins s σ H _ I h) ?_) he hpl
  rintro us s1 ⟨vs, H1, I1, r, q⟩
  have r2 := r.append hd
  have hl : (us ++ ds).length = ps.length := by rw [← r2.length]; exact F.len _ _ _ _ q
  exact ⟨I1.kIn, run_fnG F hgd hr (hx σ) I1 (hb s1 us I1.kIn hl) r2 q⟩
end
/-- the values, then the defaults -/
def apD (ca : M (List PV)) (dp : List PV) : M (List PV) := bnd ca fun a => ret (a ++ dp)
theorem reps_app {K : PySem.W.Frag} {W : Vw} {us ws : List V} {ds es : List PV} (h : Reps K W us ds) (k : Reps K W ws es) : Reps K W (us ++ ws) (ds ++ es) := h.append k
theorem den_callD {K : PySem.W.Frag} {Y : WX} {m : Fn} {n np : Nat} {cs : M (List PV)} {dvs : List V} {dp : List PV} {σ : L2.St} {H : Hp} {Q : VK} (hl : ∀ ds st, m n ds st ≠ .stk → ds.length = np) (hr : ∀ W : Vw, Reps K W dvs dp) (h : den K Y (callM m n (apD cs dp)) σ H Q) : tCallSD (spM K np m) dvs (WE Y) (denA K Y cs) σ H Q := by
  obtain ⟨C, W, s, at', p⟩ := den_call hl h
  refine ⟨C, W, s, at', (Pst.bnd p).imp fun ds s1 W1 H1 l1 at1 p1 vs rvs => ?_⟩
  exact p1 W1 H1 (Vw.Le.refl _) at1 _ (reps_app rvs (hr W1))
/-- a def called by name, its keyword-only arguments left out: dp are their defaults -/
structure DfD (P : Program) (w : World) (K : PySem.W.Frag) (mg : Str → Option Value) (base : Heap) (k : Nat) (x : Str) (np : Nat) (dp : List PV) (m : Fn) : Prop where
  ex : ∃ (f : Addr) (fd : FuncData) (ps : List Str) (ds : List Value) (dvs : List V), FnG P w K mg base (L2.CX P w) k f fd ps (spM K np m) ∧ mg x = some (.ref f) ∧ PySem.W.keepIn K (.ref f) = true ∧ Binds K fd ps ds ∧ Vals dvs ds ∧ ∀ W : Vw, Reps K W dvs dp
  len : ∀ n ds st, m n ds st ≠ .stk → ds.length = np
theorem xdefD {Y : WX} {X : Cx} {k j np : Nat} {x : Str} {dp : List PV} {m : Fn} {cs : M (List PV)} {e : Expr} {es : List Expr} {p pos : Pos} (n : Nat) (F : DfD X.prog X.w X.K X.mg X.base j x np dp m) (hgd : X.A.guards = some []) (hr : Room k X.A) (tk : Takes X Y) (hjk : j ≤ k) (ha : PA X (e :: es) (denA X.K Y cs)) (hg : Gl X x := by rfl)
    (hdb : (x == ("__debug__" : Str)) = false := by decide) (he : starEach (e :: es) X.env = (false, eval e X.env) :: starEach es X.env := by rfl) (hpl : (backTo pos (starEach es X.env)).any (·.1) = false := by rfl) :
    PE X (.Call (.Name x p) (e :: es) [] pos) (den X.K Y (callM m n (apD cs dp))) := by
  obtain ⟨f, fd, ps, ds, dvs, G, hm, hk, hb, hd, hw⟩ := F.ex
  exact pe_imp (pe_callGD G hgd (hr.mono hjk) hg hm hk hb hd (fun σ => passAt tk σ) ha hdb he hpl) fun _ _ _ => den_callD (F.len n) hw
end Dn
/-! Sv4: a def's keyword-only defaults, left out. -/
namespace Dn
open PySem L2 ClX StX NdefX PySem.Spec PyProof.Rows
theorem kbDf {K : PySem.W.Frag} {x qual : Str} {st : Stmt} {kV doc pm cdv ct : Value} {an : Option Addr} {ps : List Str} {n : Nat} {kws : List (Str × V)} (hK : ∃ D, kV = .ref D ∧ ∀ q ∈ kws, ∃ u, PySem.W.nsIn K D q.1 = some (some u) ∧ RelV q.2 u) (hn : n + kws.length = ps.length)
    (h : ∀ (D : Addr) (us ks : List Value), us.length = n → ks.length = kws.length → KwChain D ((kws.map (·.1)).zip ks) (bindArgs (PySem.W.fnOf x qual (defArgs st) (defBody st) (defScope st) .none (.ref D) doc pm an cdv ct) ⟨us, []⟩) (ps.zip (us ++ ks))) :
    ∃ ds, Vals (kws.map (·.2)) ds ∧ Binds K (PySem.W.fnOf x qual (defArgs st) (defBody st) (defScope st) .none kV doc pm an cdv ct) ps ds := by
  obtain ⟨D, rfl, hq⟩ := hK
  obtain ⟨ks, hl, rk, hks⟩ := kwd_vals hq
  refine ⟨ks, rk, fun s us X hlen => ?_⟩
  have l2 : us.length = n := by
    rw [List.length_append, hl] at hlen
    omega
  exact BindsTo.of_looks fun M => KwChain.looks X hks (h D us ks l2 hl)
/-- a def whose keyword-only defaults are kws -/
def FnDP (K : PySem.W.Frag) (mg : Str → Option Value) (x : Str) (st : Stmt) (ps : List Str) (kws : List (Str × V)) : Prop := ∃ f fd, mg x = some (.ref f) ∧ Fun K x x st f fd ∧ ∃ ds, Vals (kws.map (·.2)) ds ∧ Binds K fd ps ds
theorem dfd_row {P : Program} {w : World} {K : PySem.W.Frag} {mg : Str → Option Value} {base : Heap} {k : Nat} {x : Str} {st : Stmt} {ps : List Str} {bq : Bool} {np nn : Nat} {body : Nat → M Fl} {kws : List (Str × V)} {dp : List PV} (G : Pr P w K mg base k x x st ps (fnQ bq np nn body)) (Z : FnDP K mg x st ps kws) (e : ps.length = np) (hw : ∀ W : Vw, Reps K W (kws.map (·.2)) dp) : DfD P w K mg base k x np dp (fnQ bq np nn body) := by
  obtain ⟨f, fd, hm, F, ds, hd, hb⟩ := Z
  subst e
  exact ⟨⟨f, fd, ps, ds, _, G f fd F, hm, F.kp, hb, hd, hw⟩, fun n ds st h => fnQ_len h⟩
end Dn
namespace Lw
open PySem Dn PySem.Spec PyProof.Rows ClX StX NdefX
open L2 hiding bin
structure Zt (P : Program) (K : PySem.W.Frag) (mg : Str → Option Value) : Prop where
  b_list : mg "list" = none
  fn_law_pen : FnP K mg "_law_pen" s_law_pen ["_law_script"]
  fo_own_offices : FldOk K "own_offices" ["Market"]
  b_len : mg "len" = none
  ln_Market : LenP K "Market" "__len__" "Market.__len__" s_Market_len ["self"]
  b_min : mg "min" = none
  b_range : mg "range" = none
  b_int : mg "int" = none
  b_abs : mg "abs" = none
  fn_law_draw : FnP K mg "_law_draw" s_law_draw ["_law_pen_here", "_law_many"]
  fn_law_pick : FnP K mg "_law_pick" s_law_pick ["_law_pen_here", "_law_some"]
  fn_law_names : FnP K mg "_law_names" s_law_names ["_law_pen_here", "_law_many"]
  fn_law_office : FnP K mg "_law_office" s_law_office ["_law_pen_here", "_law_label", "_law_ends", "_law_top"]
  fo_by_name : FldOk K "by_name" ["Market"]
  b_isinstance : mg "isinstance" = none
  b_str : mg "str" = none
  pth_has_Market : HasP K "Market" "__contains__" "Market.__contains__" s_Market_contains ["self", "value"]
  ptg_get_Market : GetP K "Market" "__getitem__" "Market.__getitem__" s_Market_getitem ["self", "name"]
  fn_law_ring : FnP K mg "_law_ring" s_law_ring ["_law_pen_here", "_law_labels", "_law_ends"]
  fn_law_shuffled : FnP K mg "_law_shuffled" s_law_shuffled ["_law_pen_here", "_law_some"]
  b_sorted : mg "sorted" = none
  fn_law_raw : FnP K mg "_law_raw" s_law_raw ["_law_pen_here", "_law_many", "_law_top"]
  fo_own_currencies : FldOk K "own_currencies" ["Market"]
  b_tuple : mg "tuple" = none
  fn_is_list : FnP K mg "is_list" s_is_list ["value"]
  gs_ALPHABET : StrP mg "ALPHABET" "abcdefghijklmnopqrstuvwxyz"
  b_all : mg "all" = none
  gi_LETTERS : IntP mg "LETTERS" 8
  fn_is_name : FnP K mg "is_name" s_is_name ["value"]
  fn_need_name : FnP K mg "need_name" s_need_name ["value"]
  b_enumerate : mg "enumerate" = none
  ca_Market_CURRENCIES : CatP K mg "Market" "CURRENCIES" 4
  fn_need_currencies : FnP K mg "need_currencies" s_need_currencies ["values"]
  is_Office : ∃ D, mg "Office" = some (.ref D) ∧ IsoTab K D [("Office", true), ("CappedOffice", true), ("Market", false)]
  fo_own_ends : FldOk K "own_ends" ["Office", "CappedOffice"]
  pp_CappedOffice_goal : PrpP K "CappedOffice" "goal" "Office.goal" s_Office_goal
  pp_Office_goal : PrpP K "Office" "goal" "Office.goal" s_Office_goal
  pp_CappedOffice_source : PrpP K "CappedOffice" "source" "Office.source" s_Office_source
  pp_Office_source : PrpP K "Office" "source" "Office.source" s_Office_source
  fn_need_ends : FnP K mg "need_ends" s_need_ends ["currencies", "office"]
  fo_name : FldOk K "name" ["Office", "CappedOffice"]
  ca_Market_OFFICES : CatP K mg "Market" "OFFICES" 20
  fn_need_offices : FnP K mg "need_offices" s_need_offices ["currencies", "values"]
  mk_Market_2 : MkP K mg "Market" "Market.__init__" s_Market_init ["self", "currencies", "offices"] 2 []
  b_bool : mg "bool" = none
  fk_is_integer_1_least_most : FnKP K mg "is_integer" s_is_integer ["value", "least", "most"] 1 ["least", "most"]
  ca_Office_RATE : CatP K mg "Office" "RATE" 9
  fn_is_rate : FnP K mg "is_rate" s_is_rate ["value"]
  fk_need_integer_1_least_most : FnKP K mg "need_integer" s_need_integer ["value", "least", "most"] 1 ["least", "most"]
  co_FEE : ConOk K "FEE" 20 ["Office", "CappedOffice"]
  co_LEAST : ConOk K "LEAST" 1000 ["Office", "CappedOffice"]
  fo_own_rate : FldOk K "own_rate" ["Office", "CappedOffice"]
  fo_own_fee : FldOk K "own_fee" ["Office", "CappedOffice"]
  fo_own_least : FldOk K "own_least" ["Office", "CappedOffice"]
  mk_Office_4_fee_least : MkP K mg "Office" "Office.__init__" s_Office_init ["self", "name", "source", "goal", "rate", "fee", "least"] 4 ["fee", "least"]
  su_CappedOffice_CappedOffice_init_5_fee_least : SupP K "CappedOffice" "CappedOffice" "__init__" "Office.__init__" s_Office_init ["self", "name", "source", "goal", "rate", "fee", "least"] 5 ["fee", "least"]
  co_MOST : ConOk K "MOST" 1000000 ["CappedOffice"]
  fo_own_most : FldOk K "own_most" ["CappedOffice"]
  mk_CappedOffice_4_most_fee_least : MkS P K mg "CappedOffice" "CappedOffice.__init__" "CappedOffice" s_CappedOffice_init ["self", "name", "source", "goal", "rate", "most", "fee", "least"] 4 ["most", "fee", "least"]
  fn_law_one : FnP K mg "_law_one" s_law_one ["_law_one_here"]
  fn_law_made : FnP K mg "_law_made" s_law_made ["_law_raw_here"]
  fn_law_amount : FnP K mg "_law_amount" s_law_amount ["_law_pen_here"]
  fn_law_goal : FnP K mg "_law_goal" s_law_goal ["_law_pen_here", "_law_raw_here"]
  b_dict : mg "dict" = none
  fn_law_first : FnP K mg "_law_first" s_law_first ["_law_raw_here", "_law_holding"]
  b_max : mg "max" = none
  fn_law_result : FnP K mg "_law_result" s_law_result ["_law_one_here", "_law_coins"]
  fn_law_level : FnP K mg "_law_level" s_law_level ["_law_raw_here", "_law_level_here"]
  fn_law_levels : FnP K mg "_law_levels" s_law_levels ["_law_raw_here", "_law_holding", "_law_goal_here", "_law_coins", "_law_bound"]
  gi_COINS : IntP mg "COINS" 1000000000000000000000000000000
  fn_is_amount : FnP K mg "is_amount" s_is_amount ["value"]
  fn_is_pair : FnP K mg "is_pair" s_is_pair ["value"]
  pp_Market_currencies : PrpP K "Market" "currencies" "Market.currencies" s_Market_currencies
  fn_need_currency : FnP K mg "need_currency" s_need_currency ["market", "value"]
  fn_need_holding : FnP K mg "need_holding" s_need_holding ["market", "value"]
  fn_need_amount : FnP K mg "need_amount" s_need_amount ["value"]
  gi_FEWEST : IntP mg "FEWEST" 1000
  fn_need_goal : FnP K mg "need_goal" s_need_goal ["market", "holding", "currency", "coins", "most"]
  gi_NEVER : IntP mg "NEVER" (-1)
  fn_first_level : FnP K mg "first_level" s_first_level ["market", "start"]
  pp_Market_offices : PrpP K "Market" "offices" "Market.offices" s_Market_offices
  su_CappedOffice_CappedOffice_result_2 : SupP K "CappedOffice" "CappedOffice" "result" "Office.result" s_Office_result ["self", "coins"] 2 []
  me_CappedOffice_result_2 : MthS P K mg "CappedOffice" "result" "CappedOffice.result" "CappedOffice" s_CappedOffice_result ["self", "coins"] 2 []
  me_Office_result_2 : MthP K "Office" "result" "Office.result" s_Office_result ["self", "coins"] 2 []
  fn_level_after : FnP K mg "level_after" s_level_after ["market", "level"]
  fn_levels_to : FnP K mg "levels_to" s_levels_to ["market", "start", "currency", "coins", "most"]
  fd_fewest : FnDP K mg "fewest" s_fewest ["market", "holding", "currency", "coins", "most"] [(("most" : Str), ((.int 60) : L2.V))]
  b_repr : mg "repr" = none
  fk_fewest_4_most : FnKP K mg "fewest" s_fewest ["market", "holding", "currency", "coins", "most"] 4 ["most"]
section
variable {P : Program} {w : World} {K : PySem.W.Frag} {mg : Str → Option Value} {base : Heap}
/-! ### _law_pen: 0 _law_script -/
theorem sc_law_pen : FnScope ["_law_script"] ["_law_script"] (defScope s_law_pen) := ⟨rfl, rfl, rfl, by decide +kernel, rfl, by decide +kernel, by decide +kernel⟩
noncomputable def b_law_pen (n : Nat) : M Fl :=
  (retM (dispM (("cells", (lstM (bnd (slM (var 0) parN (parS (ret (.int 63)))) fList))) :: ("spot", (ret (.int 0))) :: ("rest", (ret (.int 0))) :: [])))
noncomputable def m_law_pen : Fn := fnQ false 1 1 b_law_pen
set_option maxHeartbeats 4000000 in
theorem pr_law_pen (Z : Zt P K mg) : Pr P w K mg base 1 "_law_pen" "_law_pen" s_law_pen ["_law_script"] m_law_pen :=
  prF (pr_mk sc_law_pen (by decide) fun f cdv A outer s H E n hgd hr tk ow => by
    have nd := sc_law_pen.nd
    have hu := roomU hr
    exact (bone (sret (xdisp (kC (xo (olist Z.b_list (xsl (xv 0) qN (qS xint)))) (kC xint (kC xint kN)))))))
noncomputable def tl_len_ : List (Str × Fn) := []
theorem Ttl_len_ (Z : Zt P K mg) : LenTab P w K mg base 0 tl_len_ := len0
/-! ### Market.__len__: 0 self -/
theorem sc_Market_len : FnScope ["self"] ["self"] (defScope s_Market_len) := ⟨rfl, rfl, rfl, by decide +kernel, rfl, by decide +kernel, by decide +kernel⟩
noncomputable def b_Market_len (n : Nat) : M Fl :=
  (retM (bnd (bnd (var 0) (fldM ["Market"] "own_offices")) (lenU tl_len_ n)))
noncomputable def m_Market_len : Fn := fnQ true 1 1 b_Market_len
set_option maxHeartbeats 4000000 in
theorem pr_Market_len (Z : Zt P K mg) : Pr P w K mg base 2 "__len__" "Market.__len__" s_Market_len ["self"] m_Market_len :=
  prT (pr_mk sc_Market_len (by decide) fun f cdv A outer s H E n hgd hr tk ow => by
    have nd := sc_Market_len.nd
    have hu := roomU hr
    have Htl_len_ := Ttl_len_ (P := P) (w := w) (base := base) Z
    exact (bone (sret (xlenU n Htl_len_ hgd hr tk (by decide) Z.b_len (xfld Z.fo_own_offices (xv 0))))))
noncomputable def tl_len : List (Str × Fn) := [("Market", m_Market_len)]
theorem Ttl_len (Z : Zt P K mg) : LenTab P w K mg base 2 tl_len := (lenC (pr_Market_len Z) Z.ln_Market (by decide) rfl rfl len0)
/-! ### _law_draw: 0 _law_pen_here, 1 _law_many, 2 _law_digit, 3 _law_spot, 4 _law_cell, 5 _law_mixed -/
theorem sc_law_draw : FnScope ["_law_pen_here", "_law_many", "_law_digit", "_law_spot", "_law_cell", "_law_mixed"] ["_law_pen_here", "_law_many"] (defScope s_law_draw) := ⟨rfl, rfl, rfl, by decide +kernel, rfl, by decide +kernel, by decide +kernel⟩
noncomputable def b_law_draw (n : Nat) : M Fl :=
  (seqM (ifM (asB (bin (bin (var 0) (ret (.str "rest")) hgetP) (ret (.int 0)) opGt)) (seqM (asgM 2 (bin (bnd (bin (var 0) (ret (.str "rest")) hgetP) fInt) (var 1) opMod))
    (seqM (hputM (var 0) (ret (.str "rest")) (bin (bin (var 0) (ret (.str "rest")) hgetP) (var 1) opDiv))
    (retM (var 2)))) skipM)
    (seqM (par2 3 4 (bin (var 0) (ret (.str "spot")) hgetP) (ret (.int 0)))
    (seqM (hputM (var 0) (ret (.str "spot")) (bin (var 3) (ret (.int 1)) opAdd))
    (seqM (ifM (asB (bin (bin (var 0) (ret (.str "cells")) hgetP) (lstM (fits argN)) opNe)) (asgM 4 (bin (bin (var 0) (ret (.str "cells")) hgetP) (bin (bnd (var 3) fInt) (bnd (bin (var 0) (ret (.str "cells")) hgetP) fLen) opMod) opIx)) skipM)
    (seqM (ifM (andT (asB (bin (var 3) (bnd (bin (var 0) (ret (.str "cells")) hgetP) fLen) opLt)) (asB (bin (bnd (var 4) fAbs) (bin (ret (.int 10)) (ret (.int 18)) opPow) opGe))) (seqM (hputM (var 0) (ret (.str "rest")) (bin (bin (bnd (var 4) fAbs) (bin (ret (.int 10)) (ret (.int 18)) opPow) opSub) (var 1) opDiv))
    (retM (bin (bin (bnd (var 4) fAbs) (bin (ret (.int 10)) (ret (.int 18)) opPow) opSub) (var 1) opMod))) skipM)
    (seqM (asgM 5 (bin (bin (bin (bin (var 4) (bin (bin (ret (.int 83)) (var 3) opMulV) (var 3) opMulV) opAdd) (bin (ret (.int 41)) (var 3) opMulV) opAdd) (ret (.int 7)) opAdd) (ret (.int 2862933555777941757)) opMulV))
    (seqM (asgM 5 (bin (bnd (bin (var 5) (bin (ret (.int 3037000493)) (bin (var 3) (ret (.int 1)) opAdd) opMulV) opAdd) fInt) (ret (.int 18446744073709551533)) opMod))
    (seqM (asgM 5 (bin (bnd (bin (var 5) (bin (var 5) (ret (.int 1181783497)) opAdd) opMulV) fInt) (ret (.int 18446744073709551533)) opMod))
    (retM (bin (bnd (bin (var 5) (ret (.int 4294967291)) opDiv) fInt) (var 1) opMod))))))))))
noncomputable def m_law_draw : Fn := fnQ false 2 6 b_law_draw
set_option maxHeartbeats 4000000 in
theorem pr_law_draw (Z : Zt P K mg) : Pr P w K mg base 1 "_law_draw" "_law_draw" s_law_draw ["_law_pen_here", "_law_many"] m_law_draw :=
  prF (pr_mk sc_law_draw (by decide) fun f cdv A outer s H E n hgd hr tk ow => by
    have nd := sc_law_draw.nd
    have hu := roomU hr
    exact (bcons (sif (tcmp k_gt (xhget hu (xv 0) xstr) xint) (bcons (sset 2 nd (xmod (xtoint Z.b_int (xhget hu (xv 0) xstr)) (xv 1)))
    (bcons (shput hu (xv 0) xstr (xfdiv (xhget hu (xv 0) xstr) (xv 1)))
    (bone (sret (xv 2))))) bnil)
    (bcons (spar2 3 4 rfl nd (xhget hu (xv 0) xstr) xint)
    (bcons (shput hu (xv 0) xstr (xadd (xv 3) xint))
    (bcons (sif (tcmp (k_ne hu) (xhget hu (xv 0) xstr) (xo (olst anil))) (bone (sset 4 nd (xix (xhget hu (xv 0) xstr) (xmod (xtoint Z.b_int (xv 3)) (xlen Z.b_len (xhget hu (xv 0) xstr)))))) bnil)
    (bcons (sif (PW.pt (wand (tcmp k_lt (xv 3) (xlen Z.b_len (xhget hu (xv 0) xstr))) (pw_and1 (tcmp k_ge (xabs Z.b_abs (xv 4)) (xpow xint xint))))) (bcons (shput hu (xv 0) xstr (xfdiv (xsub (xabs Z.b_abs (xv 4)) (xpow xint xint)) (xv 1)))
    (bone (sret (xmod (xsub (xabs Z.b_abs (xv 4)) (xpow xint xint)) (xv 1))))) bnil)
    (bcons (sset 5 nd (xmulV (xadd (xadd (xadd (xv 4) (xmulV (xmulV xint (xv 3)) (xv 3))) (xmulV xint (xv 3))) xint) xint))
    (bcons (sset 5 nd (xmod (xtoint Z.b_int (xadd (xv 5) (xmulV xint (xadd (xv 3) xint)))) xint))
    (bcons (sset 5 nd (xmod (xtoint Z.b_int (xmulV (xv 5) (xadd (xv 5) xint))) xint))
    (bone (sret (xmod (xtoint Z.b_int (xfdiv (xv 5) xint)) (xv 1)))))))))))))
/-! ### _law_pick: 0 _law_pen_here, 1 _law_some -/
theorem sc_law_pick : FnScope ["_law_pen_here", "_law_some"] ["_law_pen_here", "_law_some"] (defScope s_law_pick) := ⟨rfl, rfl, rfl, by decide +kernel, rfl, by decide +kernel, by decide +kernel⟩
noncomputable def b_law_pick (n : Nat) : M Fl :=
  (retM (bin (var 1) (callM m_law_draw n (argC (var 0) (argC (bnd (var 1) fLen) argN))) opIx))
noncomputable def m_law_pick : Fn := fnQ false 2 2 b_law_pick
set_option maxHeartbeats 4000000 in
theorem pr_law_pick (Z : Zt P K mg) : Pr P w K mg base 2 "_law_pick" "_law_pick" s_law_pick ["_law_pen_here", "_law_some"] m_law_pick :=
  prF (pr_mk sc_law_pick (by decide) fun f cdv A outer s H E n hgd hr tk ow => by
    have nd := sc_law_pick.nd
    have hu := roomU hr
    have D_law_draw := df_row (pr_law_draw (P := P) (w := w) (base := base) Z) Z.fn_law_draw rfl
    exact (bone (sret (xix (xv 1) (xdef n D_law_draw hgd hr tk (by decide) (acons (xv 0) (acons (xlen Z.b_len (xv 1)) anil)))))))
/-! ### _law_names: 0 _law_pen_here, 1 _law_many, 2 _law_letters, 3 _law_found, 4 _law_base, 5 _law_at, 6 _law_first_here, 7 _law_by, 8 _law_k, 9 _law_tail -/
theorem sc_law_names : FnScope ["_law_pen_here", "_law_many", "_law_letters", "_law_found", "_law_base", "_law_at", "_law_first_here", "_law_by", "_law_k", "_law_tail"] ["_law_pen_here", "_law_many"] (defScope s_law_names) := ⟨rfl, rfl, rfl, by decide +kernel, rfl, by decide +kernel, by decide +kernel⟩
noncomputable def b_law_names (n : Nat) : M Fl :=
  (seqM (par2VO 2 3 (ret (.str "abcdefghijklmnopqrstuvwxyz")) (fits argN))
    (seqM (asgM 4 (joinM (ret (.str "")) (lstM (lcM (rngM (bin (ret (.int 1)) (callM m_law_draw n (argC (var 0) (argC (ret (.int 8)) argN))) opAdd)) 8 [8] (ret true) (callM m_law_pick n (argC (var 0) (argC (var 2) argN)))))))
    (seqM (par3 5 6 7 (callM m_law_draw n (argC (var 0) (argC (bnd (var 4) fLen) argN))) (callM m_law_draw n (argC (var 0) (argC (ret (.int 26)) argN))) (callM m_law_pick n (argC (var 0) (argC (lstM (fits (argC (ret (.int 1)) (argC (ret (.int 3)) (argC (ret (.int 5)) (argC (ret (.int 7)) (argC (ret (.int 9)) (argC (ret (.int 11)) (argC (ret (.int 15)) (argC (ret (.int 17)) argN)))))))))) argN))))
    (seqM (loopM (rngM (var 1)) 8 (seqM (asgM 9 (iteT (asB (bin (callM m_law_draw n (argC (var 0) (argC (ret (.int 3)) argN))) (ret (.int 0)) opGt)) (slM (var 4) (parS (bin (var 5) (ret (.int 1)) opAdd)) parN) (ret (.str ""))))
    (dropM (appM 3 (bin (bin (slM (var 4) parN (parS (var 5))) (bin (var 2) (bin (bnd (bin (var 6) (bin (var 7) (var 8) opMul) opAdd) fInt) (ret (.int 26)) opMod) opIx) opAdd) (var 9) opAdd)))))
    (retM (var 3))))))
noncomputable def m_law_names : Fn := fnQ false 2 10 b_law_names
set_option maxHeartbeats 4000000 in
theorem pr_law_names (Z : Zt P K mg) : Pr P w K mg base 3 "_law_names" "_law_names" s_law_names ["_law_pen_here", "_law_many"] m_law_names :=
  prF (pr_mk sc_law_names (by decide) fun f cdv A outer s H E n hgd hr tk ow => by
    have nd := sc_law_names.nd
    have hu := roomU hr
    have D_law_draw := df_row (pr_law_draw (P := P) (w := w) (base := base) Z) Z.fn_law_draw rfl
    have D_law_pick := df_row (pr_law_pick (P := P) (w := w) (base := base) Z) Z.fn_law_pick rfl
    exact (bcons (spar2VOc 2 3 rfl nd xstr (olst anil) (hg := pgs_cons (gn 2 nd) (pgs_cons (gn 3 nd) pgs_nil)))
    (bcons (sset 4 nd (xjoin xstr (xo (olc 8 (own := [("_law_k", 8)]) rfl nd (irng Z.b_range (xadd xint (xdef n D_law_draw hgd hr tk (by decide) (acons (xv 0) (acons xint anil))))) src_rng (blkOk_by (by kernel_rfl)) (by decide) (fun _ _ _ _ _ => pg_name (i := 8) nd rfl (by first | exact Or.inl rfl | exact Or.inr rfl)) (fun _ _ _ _ _ => tsN) (fun _ _ _ _ _ => (xdef n D_law_pick hgd hr takesF (by decide) (acons (xv 0) (acons (xv 2) anil))))))))
    (bcons (spar3 5 6 7 rfl nd (xdef n D_law_draw hgd hr tk (by decide) (acons (xv 0) (acons (xlen Z.b_len (xv 4)) anil))) (xdef n D_law_draw hgd hr tk (by decide) (acons (xv 0) (acons xint anil))) (xdef n D_law_pick hgd hr tk (by decide) (acons (xv 0) (acons (xo (olst (acons xint (acons xint (acons xint (acons xint (acons xint (acons xint (acons xint (acons xint anil)))))))))) anil))))
    (bcons (sfor 8 rfl nd ow (irng Z.b_range (xv 1)) src_rng (bcons (sset 9 nd (xif (tcmp k_gt (xdef n D_law_draw hgd hr tk (by decide) (acons (xv 0) (acons xint anil))) xint) (xsl (xv 4) (qS (xadd (xv 5) xint)) qN) xstr))
    (bone (sexpr (xapp 3 (xadd (xadd (xsl (xv 4) qN (qS (xv 5))) (xix (xv 2) (xmod (xtoint Z.b_int (xadd (xv 6) (xmul (xv 7) (xv 8)))) xint))) (xv 9)))))))
    (bone (sret (xv 3))))))))
/-! ### _law_office: 0 _law_pen_here, 1 _law_label, 2 _law_ends, 3 _law_top, 4 _law_source, 5 _law_goal_here, 6 _law_p, 7 _law_q, 8 _law_cost, 9 _law_floor, 10 _law_cap -/
theorem sc_law_office : FnScope ["_law_pen_here", "_law_label", "_law_ends", "_law_top", "_law_source", "_law_goal_here", "_law_p", "_law_q", "_law_cost", "_law_floor", "_law_cap"] ["_law_pen_here", "_law_label", "_law_ends", "_law_top"] (defScope s_law_office) := ⟨rfl, rfl, rfl, by decide +kernel, rfl, by decide +kernel, by decide +kernel⟩
noncomputable def b_law_office (n : Nat) : M Fl :=
  (seqM (unpM [4, 5, 6, 7] (tupM (argC (callM m_law_pick n (argC (var 0) (argC (var 2) argN))) (argC (callM m_law_pick n (argC (var 0) (argC (var 2) argN))) (argC (bin (ret (.int 1)) (callM m_law_draw n (argC (var 0) (argC (var 3) argN))) opAdd) (argC (bin (ret (.int 1)) (callM m_law_draw n (argC (var 0) (argC (var 3) argN))) opAdd) argN))))))
    (seqM (par2 8 9 (callM m_law_pick n (argC (var 0) (argC (lstM (fits (argC (ret (.int 0)) (argC (ret (.int 0)) (argC (ret (.int 1)) (argC (ret (.int 2)) (argC (callM m_law_draw n (argC (var 0) (argC (ret (.int 21)) argN))) argN))))))) argN))) (callM m_law_pick n (argC (var 0) (argC (lstM (fits (argC (ret (.int 0)) (argC (ret (.int 0)) (argC (ret (.int 1)) (argC (ret (.int 9)) (argC (callM m_law_draw n (argC (var 0) (argC (ret (.int 1001)) argN))) argN))))))) argN))))
    (seqM (asgM 10 (callM m_law_pick n (argC (var 0) (argC (lstM (fits (argC (ret .non) (argC (ret .non) (argC (ret .non) (argC (bin (var 9) (callM m_law_draw n (argC (var 0) (argC (ret (.int 60)) argN))) opAdd) (argC (bin (var 9) (callM m_law_draw n (argC (var 0) (argC (bin (ret (.int 1000001)) (var 9) opSub) argN))) opAdd) argN))))))) argN))))
    (retM (tupM (argC (var 1) (argC (var 4) (argC (var 5) (argC (var 6) (argC (var 7) (argC (var 8) (argC (var 9) (argC (var 10) argN)))))))))))))
noncomputable def m_law_office : Fn := fnQ true 4 11 b_law_office
set_option maxHeartbeats 4000000 in
theorem pr_law_office (Z : Zt P K mg) : Pr P w K mg base 3 "_law_office" "_law_office" s_law_office ["_law_pen_here", "_law_label", "_law_ends", "_law_top"] m_law_office :=
  prT (pr_mk sc_law_office (by decide) fun f cdv A outer s H E n hgd hr tk ow => by
    have nd := sc_law_office.nd
    have hu := roomU hr
    have D_law_draw := df_row (pr_law_draw (P := P) (w := w) (base := base) Z) Z.fn_law_draw rfl
    have D_law_pick := df_row (pr_law_pick (P := P) (w := w) (base := base) Z) Z.fn_law_pick rfl
    exact (bcons (sunp [4, 5, 6, 7] rfl (xtup (acons (xdef n D_law_pick hgd hr tk (by decide) (acons (xv 0) (acons (xv 2) anil))) (acons (xdef n D_law_pick hgd hr tk (by decide) (acons (xv 0) (acons (xv 2) anil))) (acons (xadd xint (xdef n D_law_draw hgd hr tk (by decide) (acons (xv 0) (acons (xv 3) anil)))) (acons (xadd xint (xdef n D_law_draw hgd hr tk (by decide) (acons (xv 0) (acons (xv 3) anil)))) anil))))) (pgs_cons (gn 4 nd) (pgs_cons (gn 5 nd) (pgs_cons (gn 6 nd) (pgs_cons (gn 7 nd) pgs_nil)))))
    (bcons (spar2 8 9 rfl nd (xdef n D_law_pick hgd hr tk (by decide) (acons (xv 0) (acons (xo (olst (acons xint (acons xint (acons xint (acons xint (acons (xdef n D_law_draw hgd hr tk (by decide) (acons (xv 0) (acons xint anil))) anil))))))) anil))) (xdef n D_law_pick hgd hr tk (by decide) (acons (xv 0) (acons (xo (olst (acons xint (acons xint (acons xint (acons xint (acons (xdef n D_law_draw hgd hr tk (by decide) (acons (xv 0) (acons xint anil))) anil))))))) anil))))
    (bcons (sset 10 nd (xdef n D_law_pick hgd hr tk (by decide) (acons (xv 0) (acons (xo (olst (acons xnon (acons xnon (acons xnon (acons (xadd (xv 9) (xdef n D_law_draw hgd hr tk (by decide) (acons (xv 0) (acons xint anil)))) (acons (xadd (xv 9) (xdef n D_law_draw hgd hr tk (by decide) (acons (xv 0) (acons (xsub xint (xv 9)) anil)))) anil))))))) anil))))
    (bone (sret (xtup (acons (xv 1) (acons (xv 4) (acons (xv 5) (acons (xv 6) (acons (xv 7) (acons (xv 8) (acons (xv 9) (acons (xv 10) anil)))))))))))))))
noncomputable def th_has_ : List (Str × Fn) := []
theorem Tth_has_ (Z : Zt P K mg) : HasTab P w K mg base 0 th_has_ := has0
/-! ### Market.__contains__: 0 self, 1 value -/
theorem sc_Market_contains : FnScope ["self", "value"] ["self", "value"] (defScope s_Market_contains) := ⟨rfl, rfl, rfl, by decide +kernel, rfl, by decide +kernel, by decide +kernel⟩
noncomputable def b_Market_contains (n : Nat) : M Fl :=
  (retM (andV (bnd (var 1) (fIsi "str")) (bin (var 1) (bnd (var 0) (fldM ["Market"] "by_name")) (inO th_has_ n false))))
noncomputable def m_Market_contains : Fn := fnQ true 2 2 b_Market_contains
set_option maxHeartbeats 4000000 in
theorem pr_Market_contains (Z : Zt P K mg) : Pr P w K mg base 2 "__contains__" "Market.__contains__" s_Market_contains ["self", "value"] m_Market_contains :=
  prT (pr_mk sc_Market_contains (by decide) fun f cdv A outer s H E n hgd hr tk ow => by
    have nd := sc_Market_contains.nd
    have hu := roomU hr
    have Hth_has_ := Tth_has_ (P := P) (w := w) (base := base) Z
    exact (bone (sret (xand (xisi Z.b_isinstance Z.b_str rfl (xv 1)) (pe_one (xcmpV (k_inO n Hth_has_ hu hgd hr (by decide)) (xv 1) (xfld Z.fo_by_name (xv 0))))))))
noncomputable def th_has : List (Str × Fn) := [("Market", m_Market_contains)]
theorem Tth_has (Z : Zt P K mg) : HasTab P w K mg base 2 th_has := (hasC (pr_Market_contains Z) Z.pth_has_Market (by decide) rfl rfl has0)
noncomputable def tg_get_ : List (Str × Fn) := []
theorem Ttg_get_ (Z : Zt P K mg) : GetTab P w K mg base 0 tg_get_ := get0
/-! ### Market.__getitem__: 0 self, 1 name -/
theorem sc_Market_getitem : FnScope ["self", "name"] ["self", "name"] (defScope s_Market_getitem) := ⟨rfl, rfl, rfl, by decide +kernel, rfl, by decide +kernel, by decide +kernel⟩
noncomputable def b_Market_getitem (n : Nat) : M Fl :=
  (seqM (ifM (orT (notT (truT (bnd (var 1) (fIsi "str")))) (asB (bin (var 1) (bnd (var 0) (fldM ["Market"] "by_name")) (inO th_has n true)))) stuck skipM)
    (retM (bin (bnd (var 0) (fldM ["Market"] "by_name")) (var 1) (subO tg_get_ n))))
noncomputable def m_Market_getitem : Fn := fnQ true 2 2 b_Market_getitem
set_option maxHeartbeats 4000000 in
theorem pr_Market_getitem (Z : Zt P K mg) : Pr P w K mg base 4 "__getitem__" "Market.__getitem__" s_Market_getitem ["self", "name"] m_Market_getitem :=
  prT (pr_mk sc_Market_getitem (by decide) fun f cdv A outer s H E n hgd hr tk ow => by
    have nd := sc_Market_getitem.nd
    have hu := roomU hr
    have Hth_has := Tth_has (P := P) (w := w) (base := base) Z
    have Htg_get_ := Ttg_get_ (P := P) (w := w) (base := base) Z
    exact (bcons (sif (PW.pt (wor (tnot (ttru (xisi Z.b_isinstance Z.b_str rfl (xv 1)))) (pw_or1 (tcmpV (k_ninO n Hth_has hu hgd hr (by decide)) (xv 1) (xfld Z.fo_by_name (xv 0)))))) (bone sstuck) bnil)
    (bone (sret (xsubO n Htg_get_ hu hgd hr tk (by decide) (xfld Z.fo_by_name (xv 0)) (xv 1))))))
noncomputable def tg_get : List (Str × Fn) := [("Market", m_Market_getitem)]
theorem Ttg_get (Z : Zt P K mg) : GetTab P w K mg base 4 tg_get := (getC (pr_Market_getitem Z) Z.ptg_get_Market (by decide) rfl rfl get0)
/-! ### _law_ring: 0 _law_pen_here, 1 _law_labels, 2 _law_ends, 3 _law_rates, 4 _law_found, 5 _law_free, 6 _law_k, 7 _law_p, 8 _law_q, 9 _law_cost -/
theorem sc_law_ring : FnScope ["_law_pen_here", "_law_labels", "_law_ends", "_law_rates", "_law_found", "_law_free", "_law_k", "_law_p", "_law_q", "_law_cost"] ["_law_pen_here", "_law_labels", "_law_ends"] (defScope s_law_ring) := ⟨rfl, rfl, rfl, by decide +kernel, rfl, by decide +kernel, by decide +kernel⟩
noncomputable def b_law_ring (n : Nat) : M Fl :=
  (seqM (asgM 3 (callM m_law_pick n (argC (var 0) (argC (lstM (fits (argC (lstM (fits (argC (tupM (argC (ret (.int 3)) (argC (ret (.int 2)) argN))) (argC (tupM (argC (ret (.int 5)) (argC (ret (.int 7)) argN))) argN)))) (argC (lstM (fits (argC (tupM (argC (ret (.int 7)) (argC (ret (.int 5)) argN))) (argC (tupM (argC (ret (.int 3)) (argC (ret (.int 4)) argN))) argN)))) (argC (lstM (fits (argC (tupM (argC (ret (.int 4)) (argC (ret (.int 3)) argN))) (argC (tupM (argC (ret (.int 4)) (argC (ret (.int 5)) argN))) argN)))) (argC (lstM (fits (argC (tupM (argC (ret (.int 6)) (argC (ret (.int 5)) argN))) (argC (tupM (argC (ret (.int 6)) (argC (ret (.int 7)) argN))) argN)))) (argC (lstM (fits (argC (tupM (argC (ret (.int 5)) (argC (ret (.int 4)) argN))) (argC (tupM (argC (ret (.int 4)) (argC (ret (.int 5)) argN))) argN)))) argN))))))) argN))))
    (seqM (asgM 3 (callM m_law_pick n (argC (var 0) (argC (lstM (fits (argC (var 3) (argC (var 3) (argC (lstM (fits (argC (tupM (argC (ret (.int 2)) (argC (ret (.int 1)) argN))) argN))) (argC (lstM (fits (argC (tupM (argC (ret (.int 9)) (argC (ret (.int 8)) argN))) argN))) argN)))))) argN))))
    (seqM (par2OV' 4 5 (fits argN) (callM m_law_pick n (argC (var 0) (argC (lstM (fits (argC (ret (.int 0)) (argC (ret (.int 1)) (argC (callM m_law_draw n (argC (var 0) (argC (ret (.int 21)) argN))) argN))))) argN))))
    (seqM (loopM (rngM (bnd (var 2) (lenU tl_len n))) 6 (seqM (unpM [7, 8] (iteT (asB (bin (var 6) (bnd (var 3) (lenU tl_len n)) opLtU)) (bin (var 3) (var 6) (subO tg_get n)) (tupM (argC (ret (.int 1)) (argC (ret (.int 1)) argN)))))
    (seqM (asgM 9 (bin (var 5) (bnd (bin (var 6) (ret (.int 0)) opEq) fInt) opMul))
    (dropM (appM 4 (tupM (argC (bin (var 1) (var 6) (subO tg_get n)) (argC (bin (var 2) (var 6) (subO tg_get n)) (argC (bin (var 2) (bin (bnd (bin (var 6) (ret (.int 1)) opAdd) fInt) (bnd (var 2) (lenU tl_len n)) opMod) (subO tg_get n)) (argC (var 7) (argC (var 8) (argC (var 9) (argC (callM m_law_draw n (argC (var 0) (argC (ret (.int 3)) argN))) (argC (ret .non) argN))))))))))))))
    (retM (var 4))))))
noncomputable def m_law_ring : Fn := fnQ true 3 10 b_law_ring
set_option maxHeartbeats 4000000 in
theorem pr_law_ring (Z : Zt P K mg) : Pr P w K mg base 6 "_law_ring" "_law_ring" s_law_ring ["_law_pen_here", "_law_labels", "_law_ends"] m_law_ring :=
  prT (pr_mk sc_law_ring (by decide) fun f cdv A outer s H E n hgd hr tk ow => by
    have nd := sc_law_ring.nd
    have hu := roomU hr
    have D_law_pick := df_row (pr_law_pick (P := P) (w := w) (base := base) Z) Z.fn_law_pick rfl
    have D_law_draw := df_row (pr_law_draw (P := P) (w := w) (base := base) Z) Z.fn_law_draw rfl
    have Htl_len := Ttl_len (P := P) (w := w) (base := base) Z
    have Htg_get := Ttg_get (P := P) (w := w) (base := base) Z
    exact (bcons (sset 3 nd (xdef n D_law_pick hgd hr tk (by decide) (acons (xv 0) (acons (xo (olst (acons (xo (olst (acons (xtup (acons xint (acons xint anil))) (acons (xtup (acons xint (acons xint anil))) anil)))) (acons (xo (olst (acons (xtup (acons xint (acons xint anil))) (acons (xtup (acons xint (acons xint anil))) anil)))) (acons (xo (olst (acons (xtup (acons xint (acons xint anil))) (acons (xtup (acons xint (acons xint anil))) anil)))) (acons (xo (olst (acons (xtup (acons xint (acons xint anil))) (acons (xtup (acons xint (acons xint anil))) anil)))) (acons (xo (olst (acons (xtup (acons xint (acons xint anil))) (acons (xtup (acons xint (acons xint anil))) anil)))) anil))))))) anil))))
    (bcons (sset 3 nd (xdef n D_law_pick hgd hr tk (by decide) (acons (xv 0) (acons (xo (olst (acons (xv 3) (acons (xv 3) (acons (xo (olst (acons (xtup (acons xint (acons xint anil))) anil))) (acons (xo (olst (acons (xtup (acons xint (acons xint anil))) anil))) anil)))))) anil))))
    (bcons (spar2OV 4 5 rfl nd (olst anil) (xdef n D_law_pick hgd hr tk (by decide) (acons (xv 0) (acons (xo (olst (acons xint (acons xint (acons (xdef n D_law_draw hgd hr tk (by decide) (acons (xv 0) (acons xint anil))) anil))))) anil))))
    (bcons (sfor 6 rfl nd ow (irng Z.b_range (xlenU n Htl_len hgd hr tk (by decide) Z.b_len (xv 2))) src_rng (bcons (sunp [7, 8] rfl (xif (tcmp k_ltU (xv 6) (xlenU n Htl_len hgd hr tk (by decide) Z.b_len (xv 3))) (xsubO n Htg_get hu hgd hr tk (by decide) (xv 3) (xv 6)) (xtup (acons xint (acons xint anil)))) (pgs_cons (gn 7 nd) (pgs_cons (gn 8 nd) pgs_nil)))
    (bcons (sset 9 nd (xmul (xv 5) (xtoint Z.b_int (xcmp (k_eq hu) (xv 6) xint))))
    (bone (sexpr (xapp 4 (xtup (acons (xsubO n Htg_get hu hgd hr tk (by decide) (xv 1) (xv 6)) (acons (xsubO n Htg_get hu hgd hr tk (by decide) (xv 2) (xv 6)) (acons (xsubO n Htg_get hu hgd hr tk (by decide) (xv 2) (xmod (xtoint Z.b_int (xadd (xv 6) xint)) (xlenU n Htl_len hgd hr tk (by decide) Z.b_len (xv 2)))) (acons (xv 7) (acons (xv 8) (acons (xv 9) (acons (xdef n D_law_draw hgd hr tk (by decide) (acons (xv 0) (acons xint anil))) (acons xnon anil)))))))))))))))
    (bone (sret (xv 4))))))))
/-! ### _law_shuffled: 0 _law_pen_here, 1 _law_some, 2 _law_left, 3 _law_found -/
theorem sc_law_shuffled : FnScope ["_law_pen_here", "_law_some", "_law_left", "_law_found"] ["_law_pen_here", "_law_some"] (defScope s_law_shuffled) := ⟨rfl, rfl, rfl, by decide +kernel, rfl, by decide +kernel, by decide +kernel⟩
noncomputable def b_law_shuffled (n : Nat) : M Fl :=
  (seqM (par2OO 2 3 (bnd (var 1) fList) (fits argN))
    (seqM (whM (asB (binL 2 (lstM (fits argN)) opNe)) (dropM (appM 3 (popM 2 (callM m_law_draw n (argC (var 0) (argC (bnd (brw 2) fLen) argN)))))) n)
    (retM (var 3))))
noncomputable def m_law_shuffled : Fn := fnQ false 2 4 b_law_shuffled
set_option maxHeartbeats 4000000 in
theorem pr_law_shuffled (Z : Zt P K mg) : Pr P w K mg base 2 "_law_shuffled" "_law_shuffled" s_law_shuffled ["_law_pen_here", "_law_some"] m_law_shuffled :=
  prF (pr_mk sc_law_shuffled (by decide) fun f cdv A outer s H E n hgd hr tk ow => by
    have nd := sc_law_shuffled.nd
    have hu := roomU hr
    have D_law_draw := df_row (pr_law_draw (P := P) (w := w) (base := base) Z) Z.fn_law_draw rfl
    exact (bcons (spar2OO 2 3 rfl nd (olist Z.b_list (xv 1)) (olst anil))
    (bcons (swhile n ow (tcmpL (k_ne hu) 2 (xo (olst anil))) (bone (sexpr (xapp 3 (xpop 2 (xdef n D_law_draw hgd hr tk (by decide) (acons (xv 0) (acons (xlenL 2 Z.b_len) anil))))))))
    (bone (sret (xv 3))))))
/-! ### _law_raw: 0 _law_pen_here, 1 _law_many, 2 _law_top, 3 _law_ends, 4 _law_labels, 5 _law_offices, 6 _law_label -/
theorem sc_law_raw : FnScope ["_law_pen_here", "_law_many", "_law_top", "_law_ends", "_law_labels", "_law_offices", "_law_label"] ["_law_pen_here", "_law_many", "_law_top"] (defScope s_law_raw) := ⟨rfl, rfl, rfl, by decide +kernel, rfl, by decide +kernel, by decide +kernel⟩
noncomputable def b_law_raw (n : Nat) : M Fl :=
  (seqM (asgM 3 (slM (callM m_law_names n (argC (var 0) (argC (ret (.int 4)) argN))) parN (parS (bin (ret (.int 1)) (callM m_law_draw n (argC (var 0) (argC (ret (.int 4)) argN))) opAdd))))
    (seqM (asgM 4 (callM m_law_names n (argC (var 0) (argC (bin (var 1) (ret (.int 4)) opAdd) argN))))
    (seqM (asgM 5 (lstM (lcM (itemsDM (slM (var 4) (parS (ret (.int 4))) (parS (bin (ret (.int 4)) (callM m_law_draw n (argC (var 0) (argC (bin (var 1) (ret (.int 1)) opAdd) argN))) opAdd)))) 6 [6] (ret true) (callM m_law_office n (argC (var 0) (argC (var 6) (argC (var 3) (argC (var 2) argN))))))))
    (seqM (ifM (asB (bin (callM m_law_draw n (argC (var 0) (argC (ret (.int 2)) argN))) (ret (.int 0)) opEq)) (asgM 5 (bin (var 5) (callM m_law_ring n (argC (var 0) (argC (var 4) (argC (callM m_law_shuffled n (argC (var 0) (argC (var 3) argN))) argN)))) opAdd)) skipM)
    (retM (dispM (("ends", (lstM (bnd (var 3) fSortU))) :: ("offices", (callM m_law_shuffled n (argC (var 0) (argC (var 5) argN)))) :: [])))))))
noncomputable def m_law_raw : Fn := fnQ true 3 7 b_law_raw
set_option maxHeartbeats 4000000 in
theorem pr_law_raw (Z : Zt P K mg) : Pr P w K mg base 7 "_law_raw" "_law_raw" s_law_raw ["_law_pen_here", "_law_many", "_law_top"] m_law_raw :=
  prT (pr_mk sc_law_raw (by decide) fun f cdv A outer s H E n hgd hr tk ow => by
    have nd := sc_law_raw.nd
    have hu := roomU hr
    have D_law_names := df_row (pr_law_names (P := P) (w := w) (base := base) Z) Z.fn_law_names rfl
    have D_law_draw := df_row (pr_law_draw (P := P) (w := w) (base := base) Z) Z.fn_law_draw rfl
    have D_law_office := df_row (pr_law_office (P := P) (w := w) (base := base) Z) Z.fn_law_office rfl
    have D_law_ring := df_row (pr_law_ring (P := P) (w := w) (base := base) Z) Z.fn_law_ring rfl
    have D_law_shuffled := df_row (pr_law_shuffled (P := P) (w := w) (base := base) Z) Z.fn_law_shuffled rfl
    exact (bcons (sset 3 nd (xsl (xdef n D_law_names hgd hr tk (by decide) (acons (xv 0) (acons xint anil))) qN (qS (xadd xint (xdef n D_law_draw hgd hr tk (by decide) (acons (xv 0) (acons xint anil)))))))
    (bcons (sset 4 nd (xdef n D_law_names hgd hr tk (by decide) (acons (xv 0) (acons (xadd (xv 1) xint) anil))))
    (bcons (slcV 5 6 (own := [("_law_label", 6)]) rfl nd (iud (xsl (xv 4) (qS xint) (qS (xadd xint (xdef n D_law_draw hgd hr tk (by decide) (acons (xv 0) (acons (xadd (xv 1) xint) anil))))))) src_ud (blkOk_by (by kernel_rfl)) (by decide) (fun _ _ _ _ _ => pg_name (i := 6) nd rfl (by first | exact Or.inl rfl | exact Or.inr rfl)) (fun _ _ _ _ _ => tsN) (fun _ _ _ _ _ => (xdef n D_law_office hgd hr takesF (by decide) (acons (xv 0) (acons (xv 6) (acons (xv 3) (acons (xv 2) anil)))))))
    (bcons (sif (tcmp (k_eq hu) (xdef n D_law_draw hgd hr tk (by decide) (acons (xv 0) (acons xint anil))) xint) (bone (sset 5 nd (xadd (xv 5) (xdef n D_law_ring hgd hr tk (by decide) (acons (xv 0) (acons (xv 4) (acons (xdef n D_law_shuffled hgd hr tk (by decide) (acons (xv 0) (acons (xv 3) anil))) anil))))))) bnil)
    (bone (sret (xdisp (kC (xo (osortU rfl Z.b_sorted (xv 3))) (kC (xdef n D_law_shuffled hgd hr tk (by decide) (acons (xv 0) (acons (xv 5) anil))) kN))))))))))
/-! ### is_list: 0 value -/
theorem sc_is_list : FnScope ["value"] ["value"] (defScope s_is_list) := ⟨rfl, rfl, rfl, by decide +kernel, rfl, by decide +kernel, by decide +kernel⟩
noncomputable def b_is_list (n : Nat) : M Fl :=
  (retM (bnd (var 0) (isiTM ["list", "tuple"])))
noncomputable def m_is_list : Fn := fnQ true 1 1 b_is_list
set_option maxHeartbeats 4000000 in
theorem pr_is_list (Z : Zt P K mg) : Pr P w K mg base 1 "is_list" "is_list" s_is_list ["value"] m_is_list :=
  prT (pr_mk sc_is_list (by decide) fun f cdv A outer s H E n hgd hr tk ow => by
    have nd := sc_is_list.nd
    have hu := roomU hr
    exact (bone (sret (xisiT (nms := ["list", "tuple"]) Z.b_isinstance (xv 0) (nmsC (nmB Z.b_list rfl) (nmsC (nmB Z.b_tuple rfl) nms0))))))
/-! ### is_name: 0 value, 1 letter -/
theorem sc_is_name : FnScope ["value", "letter"] ["value"] (defScope s_is_name) := ⟨rfl, rfl, rfl, by decide +kernel, rfl, by decide +kernel, by decide +kernel⟩
noncomputable def b_is_name (n : Nat) : M Fl :=
  (retM (andV (bnd (var 0) (fIsi "str")) (andV (chainM opLt opLe (ret (.int 0)) (bnd (var 0) fLen) (ret (.int 8))) (bnd (lstM (lcM (itemsM (var 0)) 1 [1] (ret true) (bin (var 1) (ret (.str "abcdefghijklmnopqrstuvwxyz")) opIn))) fAll))))
noncomputable def m_is_name : Fn := fnQ false 1 2 b_is_name
set_option maxHeartbeats 4000000 in
theorem pr_is_name (Z : Zt P K mg) : Pr P w K mg base 1 "is_name" "is_name" s_is_name ["value"] m_is_name :=
  prF (pr_mk sc_is_name (by decide) fun f cdv A outer s H E n hgd hr tk ow => by
    have nd := sc_is_name.nd
    have hu := roomU hr
    obtain ⟨_, h_ALPHABET⟩ := Z.gs_ALPHABET
    obtain ⟨_, h_LETTERS⟩ := Z.gi_LETTERS
    exact (bone (sret (xand (xisi Z.b_isinstance Z.b_str rfl (xv 0)) (xand (xchain k_lt k_le xint (xlen Z.b_len (xv 0)) (xgI h_LETTERS)) (pe_one (xall rfl Z.b_all (xo (olc 1 (own := [("letter", 1)]) rfl nd (iu (xv 0)) src_u (blkOk_by (by kernel_rfl)) (by decide) (fun _ _ _ _ _ => pg_name (i := 1) nd rfl (by first | exact Or.inl rfl | exact Or.inr rfl)) (fun _ _ _ _ _ => tsN) (fun _ _ _ _ _ => (xcmp (k_in hu) (xv 1) (xgS h_ALPHABET))))))))))))
/-! ### need_name: 0 value -/
theorem sc_need_name : FnScope ["value"] ["value"] (defScope s_need_name) := ⟨rfl, rfl, rfl, by decide +kernel, rfl, by decide +kernel, by decide +kernel⟩
noncomputable def b_need_name (n : Nat) : M Fl :=
  (ifM (notT (asB (callM m_is_name n (argC (var 0) argN)))) stuck skipM)
noncomputable def m_need_name : Fn := fnQ false 1 1 b_need_name
set_option maxHeartbeats 4000000 in
theorem pr_need_name (Z : Zt P K mg) : Pr P w K mg base 2 "need_name" "need_name" s_need_name ["value"] m_need_name :=
  prF (pr_mk sc_need_name (by decide) fun f cdv A outer s H E n hgd hr tk ow => by
    have nd := sc_need_name.nd
    have hu := roomU hr
    have D_is_name := df_row (pr_is_name (P := P) (w := w) (base := base) Z) Z.fn_is_name rfl
    exact (bone (sif (tnot (tval (xdef n D_is_name hgd hr tk (by decide) (acons (xv 0) anil)))) (bone sstuck) bnil)))
/-! ### need_currencies: 0 values, 1 value, 2 index -/
theorem sc_need_currencies : FnScope ["values", "value", "index"] ["values"] (defScope s_need_currencies) := ⟨rfl, rfl, rfl, by decide +kernel, rfl, by decide +kernel, by decide +kernel⟩
noncomputable def b_need_currencies (n : Nat) : M Fl :=
  (seqM (ifM (orT (notT (truT (callM m_is_list n (argC (var 0) argN)))) (asB (bin (bnd (var 0) (lenU tl_len n)) (ret (.int 0)) opEq))) stuck skipM)
    (seqM (loopM (itemsDM (var 0)) 1 (dropM (callM m_need_name n (argC (var 1) argN))))
    (seqM (loopU (enumM (var 0)) [2, 1] (ifM (asB (bin (var 1) (slM (var 0) parN (parS (var 2))) (inO th_has n false))) stuck skipM))
    (seqM (ifM (asB (bin (bnd (var 0) (lenU tl_len n)) (ret (.int 4)) opGtU)) stuck skipM)
    (retM (bnd (lstM (bnd (var 0) fSortU)) fTuple))))))
noncomputable def m_need_currencies : Fn := fnQ true 1 3 b_need_currencies
set_option maxHeartbeats 4000000 in
theorem pr_need_currencies (Z : Zt P K mg) : Pr P w K mg base 4 "need_currencies" "need_currencies" s_need_currencies ["values"] m_need_currencies :=
  prT (pr_mk sc_need_currencies (by decide) fun f cdv A outer s H E n hgd hr tk ow => by
    have nd := sc_need_currencies.nd
    have hu := roomU hr
    have Htl_len := Ttl_len (P := P) (w := w) (base := base) Z
    have D_is_list := df_row (pr_is_list (P := P) (w := w) (base := base) Z) Z.fn_is_list rfl
    have D_need_name := df_row (pr_need_name (P := P) (w := w) (base := base) Z) Z.fn_need_name rfl
    have Hth_has := Tth_has (P := P) (w := w) (base := base) Z
    obtain ⟨_, _, _, cm_Market_CURRENCIES, cr_Market_CURRENCIES, cv_Market_CURRENCIES⟩ := Z.ca_Market_CURRENCIES
    exact (bcons (sif (PW.pt (wor (tnot (ttru (xdef n D_is_list hgd hr tk (by decide) (acons (xv 0) anil)))) (pw_or1 (tcmp (k_eq hu) (xlenU n Htl_len hgd hr tk (by decide) Z.b_len (xv 0)) xint)))) (bone sstuck) bnil)
    (bcons (sfor 1 rfl nd ow (iud (xv 0)) src_ud (bone (sexpr (xdef n D_need_name hgd hr tk (by decide) (acons (xv 1) anil)))))
    (bcons (sforU [2, 1] rfl ow (ienum Z.b_enumerate (xv 0)) src_enum (pgs_cons (gn 2 nd) (pgs_cons (gn 1 nd) pgs_nil)) (bone (sif (tcmpV (k_inO n Hth_has hu hgd hr (by decide)) (xv 1) (xsl (xv 0) qN (qS (xv 2)))) (bone sstuck) bnil)))
    (bcons (sif (tcmp k_gtU (xlenU n Htl_len hgd hr tk (by decide) Z.b_len (xv 0)) (xcattr cm_Market_CURRENCIES cr_Market_CURRENCIES cv_Market_CURRENCIES)) (bone sstuck) bnil)
    (bone (sret (xtuple Z.b_tuple (xo (osortU rfl Z.b_sorted (xv 0)))))))))))
/-! ### Office.goal: 0 self -/
theorem sc_Office_goal : FnScope ["self"] ["self"] (defScope s_Office_goal) := ⟨rfl, rfl, rfl, by decide +kernel, rfl, by decide +kernel, by decide +kernel⟩
noncomputable def b_Office_goal (n : Nat) : M Fl :=
  (retM (bin (bnd (var 0) (fldM ["Office", "CappedOffice"] "own_ends")) (ret (.int 1)) opIx))
noncomputable def m_Office_goal : Fn := fnQ false 1 1 b_Office_goal
set_option maxHeartbeats 4000000 in
theorem pr_Office_goal (Z : Zt P K mg) : Pr P w K mg base 1 "goal" "Office.goal" s_Office_goal ["self"] m_Office_goal :=
  prF (pr_mk sc_Office_goal (by decide) fun f cdv A outer s H E n hgd hr tk ow => by
    have nd := sc_Office_goal.nd
    have hu := roomU hr
    exact (bone (sret (xix (xfld Z.fo_own_ends (xv 0)) xint))))
noncomputable def tp_goal : List (Str × Fn) := [("Office", m_Office_goal), ("CappedOffice", m_Office_goal)]
theorem Ttp_goal (Z : Zt P K mg) : PropTab P w K mg base 1 "goal" tp_goal := (prpC (pr_Office_goal Z) Z.pp_Office_goal (by decide) rfl (prpC (pr_Office_goal Z) Z.pp_CappedOffice_goal (by decide) rfl prp0))
/-! ### Office.source: 0 self -/
theorem sc_Office_source : FnScope ["self"] ["self"] (defScope s_Office_source) := ⟨rfl, rfl, rfl, by decide +kernel, rfl, by decide +kernel, by decide +kernel⟩
noncomputable def b_Office_source (n : Nat) : M Fl :=
  (retM (bin (bnd (var 0) (fldM ["Office", "CappedOffice"] "own_ends")) (ret (.int 0)) opIx))
noncomputable def m_Office_source : Fn := fnQ false 1 1 b_Office_source
set_option maxHeartbeats 4000000 in
theorem pr_Office_source (Z : Zt P K mg) : Pr P w K mg base 1 "source" "Office.source" s_Office_source ["self"] m_Office_source :=
  prF (pr_mk sc_Office_source (by decide) fun f cdv A outer s H E n hgd hr tk ow => by
    have nd := sc_Office_source.nd
    have hu := roomU hr
    exact (bone (sret (xix (xfld Z.fo_own_ends (xv 0)) xint))))
noncomputable def tp_source : List (Str × Fn) := [("Office", m_Office_source), ("CappedOffice", m_Office_source)]
theorem Ttp_source (Z : Zt P K mg) : PropTab P w K mg base 1 "source" tp_source := (prpC (pr_Office_source Z) Z.pp_Office_source (by decide) rfl (prpC (pr_Office_source Z) Z.pp_CappedOffice_source (by decide) rfl prp0))
/-! ### need_ends: 0 currencies, 1 office, 2 end -/
theorem sc_need_ends : FnScope ["currencies", "office", "end"] ["currencies", "office"] (defScope s_need_ends) := ⟨rfl, rfl, rfl, by decide +kernel, rfl, by decide +kernel, by decide +kernel⟩
noncomputable def b_need_ends (n : Nat) : M Fl :=
  (loopM (itemsDM (tupM (argC (bnd (var 1) (propM tp_source n)) (argC (bnd (var 1) (propM tp_goal n)) argN)))) 2 (ifM (asB (bin (var 2) (var 0) (inO th_has n true))) stuck skipM))
noncomputable def m_need_ends : Fn := fnQ true 2 3 b_need_ends
set_option maxHeartbeats 4000000 in
theorem pr_need_ends (Z : Zt P K mg) : Pr P w K mg base 4 "need_ends" "need_ends" s_need_ends ["currencies", "office"] m_need_ends :=
  prT (pr_mk sc_need_ends (by decide) fun f cdv A outer s H E n hgd hr tk ow => by
    have nd := sc_need_ends.nd
    have hu := roomU hr
    have Htp_goal := Ttp_goal (P := P) (w := w) (base := base) Z
    have Htp_source := Ttp_source (P := P) (w := w) (base := base) Z
    have Hth_has := Tth_has (P := P) (w := w) (base := base) Z
    exact (bone (sfor 2 rfl nd ow (iud (xtup (acons (xprop n Htp_source hgd hr (by decide) (xv 1)) (acons (xprop n Htp_goal hgd hr (by decide) (xv 1)) anil)))) src_ud (bone (sif (tcmpV (k_ninO n Hth_has hu hgd hr (by decide)) (xv 2) (xv 0)) (bone sstuck) bnil)))))
/-! ### need_offices: 0 currencies, 1 values, 2 known, 3 value, 4 name -/
theorem sc_need_offices : FnScope ["currencies", "values", "known", "value", "name"] ["currencies", "values"] (defScope s_need_offices) := ⟨rfl, rfl, rfl, by decide +kernel, rfl, by decide +kernel, by decide +kernel⟩
noncomputable def b_need_offices (n : Nat) : M Fl :=
  (seqM (ifM (notT (truT (callM m_is_list n (argC (var 1) argN)))) stuck skipM)
    (seqM (asgM 2 (dispM ([])))
    (seqM (loopM (itemsDM (var 1)) 3 (seqM (ifM (notT (truT (bnd (var 3) (isoM [("Office", true), ("CappedOffice", true), ("Market", false)])))) stuck skipM)
    (seqM (dropM (callM m_need_ends n (argC (var 0) (argC (var 3) argN))))
    (seqM (ifM (asB (bin (bnd (var 3) (fldM ["Office", "CappedOffice"] "name")) (var 2) (inO th_has n false))) stuck skipM)
    (dputM (var 2) (bnd (var 3) (fldM ["Office", "CappedOffice"] "name")) (var 3))))))
    (seqM (ifM (asB (bin (bnd (var 2) (lenU tl_len n)) (ret (.int 20)) opGtU)) stuck skipM)
    (retM (bnd (lstM (lcM (itemsDM (lstM (bnd (var 2) fSortU))) 4 [4] (ret true) (bin (var 2) (var 4) (subO tg_get n)))) fTuple))))))
noncomputable def m_need_offices : Fn := fnQ true 2 5 b_need_offices
set_option maxHeartbeats 4000000 in
theorem pr_need_offices (Z : Zt P K mg) : Pr P w K mg base 6 "need_offices" "need_offices" s_need_offices ["currencies", "values"] m_need_offices :=
  prT (pr_mk sc_need_offices (by decide) fun f cdv A outer s H E n hgd hr tk ow => by
    have nd := sc_need_offices.nd
    have hu := roomU hr
    have D_is_list := df_row (pr_is_list (P := P) (w := w) (base := base) Z) Z.fn_is_list rfl
    obtain ⟨_, im_Office, it_Office⟩ := Z.is_Office
    have D_need_ends := df_row (pr_need_ends (P := P) (w := w) (base := base) Z) Z.fn_need_ends rfl
    have Hth_has := Tth_has (P := P) (w := w) (base := base) Z
    have Htl_len := Ttl_len (P := P) (w := w) (base := base) Z
    obtain ⟨_, _, _, cm_Market_OFFICES, cr_Market_OFFICES, cv_Market_OFFICES⟩ := Z.ca_Market_OFFICES
    have Htg_get := Ttg_get (P := P) (w := w) (base := base) Z
    exact (bcons (sif (tnot (ttru (xdef n D_is_list hgd hr tk (by decide) (acons (xv 1) anil)))) (bone sstuck) bnil)
    (bcons (sset 2 nd xdisp0)
    (bcons (sfor 3 rfl nd ow (iud (xv 1)) src_ud (bcons (sif (tnot (ttru (xiso it_Office im_Office Z.b_isinstance (xv 3)))) (bone sstuck) bnil)
    (bcons (sexpr (xdef n D_need_ends hgd hr tk (by decide) (acons (xv 0) (acons (xv 3) anil))))
    (bcons (sif (tcmpV (k_inO n Hth_has hu hgd hr (by decide)) (xfld Z.fo_name (xv 3)) (xv 2)) (bone sstuck) bnil)
    (bone (sdput hu (xv 2) (xfld Z.fo_name (xv 3)) (xv 3)))))))
    (bcons (sif (tcmp k_gtU (xlenU n Htl_len hgd hr tk (by decide) Z.b_len (xv 2)) (xcattr cm_Market_OFFICES cr_Market_OFFICES cv_Market_OFFICES)) (bone sstuck) bnil)
    (bone (sret (xtuple Z.b_tuple (xo (olc 4 (own := [("name", 4)]) rfl nd (iud (xo (osortU rfl Z.b_sorted (xv 2)))) src_ud (blkOk_by (by kernel_rfl)) (by decide) (fun _ _ _ _ _ => pg_name (i := 4) nd rfl (by first | exact Or.inl rfl | exact Or.inr rfl)) (fun _ _ _ _ _ => tsN) (fun _ _ _ _ _ => (xsubO n Htg_get hu hgd hr takesF (by decide) (xv 2) (xv 4)))))))))))))
/-! ### Market.__init__: 0 self, 1 currencies, 2 offices, 3 office -/
theorem sc_Market_init : FnScope ["self", "currencies", "offices", "office"] ["self", "currencies", "offices"] (defScope s_Market_init) := ⟨rfl, rfl, rfl, by decide +kernel, rfl, by decide +kernel, by decide +kernel⟩
noncomputable def b_Market_init (n : Nat) : M Fl :=
  (seqM (fputM ["Market"] "own_currencies" (var 0) (callM m_need_currencies n (argC (var 1) argN)))
    (seqM (fputM ["Market"] "own_offices" (var 0) (callM m_need_offices n (argC (bnd (var 0) (fldM ["Market"] "own_currencies")) (argC (var 2) argN))))
    (fputM ["Market"] "by_name" (var 0) (hndM (dcL (itemsDM (bnd (var 0) (fldM ["Market"] "own_offices"))) 3 [3] (ret true) (bnd (var 3) (fldM ["Office", "CappedOffice"] "name")) (var 3))))))
noncomputable def m_Market_init : Fn := fnQ false 3 4 b_Market_init
set_option maxHeartbeats 4000000 in
theorem pr_Market_init (Z : Zt P K mg) : Pr P w K mg base 7 "__init__" "Market.__init__" s_Market_init ["self", "currencies", "offices"] m_Market_init :=
  prF (pr_mk sc_Market_init (by decide) fun f cdv A outer s H E n hgd hr tk ow => by
    have nd := sc_Market_init.nd
    have hu := roomU hr
    have D_need_currencies := df_row (pr_need_currencies (P := P) (w := w) (base := base) Z) Z.fn_need_currencies rfl
    have D_need_offices := df_row (pr_need_offices (P := P) (w := w) (base := base) Z) Z.fn_need_offices rfl
    exact (bcons (sfput Z.fo_own_currencies (xv 0) (xdef n D_need_currencies hgd hr tk (by decide) (acons (xv 1) anil)))
    (bcons (sfput Z.fo_own_offices (xv 0) (xdef n D_need_offices hgd hr tk (by decide) (acons (xfld Z.fo_own_currencies (xv 0)) (acons (xv 2) anil))))
    (bone (sfput Z.fo_by_name (xv 0) (xdc 3 (own := [("office", 3)]) rfl nd (iud (xfld Z.fo_own_offices (xv 0))) src_ud (blkOk_by (by kernel_rfl)) (by decide) (fun _ _ _ _ _ => pg_name (i := 3) nd rfl (by first | exact Or.inl rfl | exact Or.inr rfl)) (fun _ _ _ _ _ => tsN) (fun _ _ _ _ _ => (xfld Z.fo_name (xv 3))) (fun _ _ _ _ _ => (xv 3))))))))
/-! ### is_integer: 0 value, 1 least, 2 most -/
theorem sc_is_integer : FnScope ["value", "least", "most"] ["value", "least", "most"] (defScope s_is_integer) := ⟨rfl, rfl, rfl, by decide +kernel, rfl, by decide +kernel, by decide +kernel⟩
noncomputable def b_is_integer (n : Nat) : M Fl :=
  (retM (andV (bnd (var 0) (fIsi "int")) (andV (notV (bnd (var 0) (fIsi "bool"))) (chainM opLe opLe (var 1) (var 0) (var 2)))))
noncomputable def m_is_integer : Fn := fnQ false 3 3 b_is_integer
set_option maxHeartbeats 4000000 in
theorem pr_is_integer (Z : Zt P K mg) : Pr P w K mg base 1 "is_integer" "is_integer" s_is_integer ["value", "least", "most"] m_is_integer :=
  prF (pr_mk sc_is_integer (by decide) fun f cdv A outer s H E n hgd hr tk ow => by
    have nd := sc_is_integer.nd
    have hu := roomU hr
    exact (bone (sret (xand (xisi Z.b_isinstance Z.b_int rfl (xv 0)) (xand (xnot (xisi Z.b_isinstance Z.b_bool rfl (xv 0))) (pe_one (xchain k_le k_le (xv 1) (xv 0) (xv 2))))))))
/-! ### is_rate: 0 value, 1 part -/
theorem sc_is_rate : FnScope ["value", "part"] ["value"] (defScope s_is_rate) := ⟨rfl, rfl, rfl, by decide +kernel, rfl, by decide +kernel, by decide +kernel⟩
noncomputable def b_is_rate (n : Nat) : M Fl :=
  (seqM (ifM (orT (notT (asB (bnd (var 0) (fIsi "tuple")))) (asB (bin (bnd (var 0) fLen) (ret (.int 2)) opNe))) (retM (ret (.bl false))) skipM)
    (retM (bnd (lstM (lcM (itemsM (var 0)) 1 [1] (ret true) (callM m_is_integer n (appA 1 (["least", "most"] : List Str).length (argC (var 1) argN) (argC (ret (.int 1)) (argC (ret (.int 9)) argN)))))) fAll)))
noncomputable def m_is_rate : Fn := fnQ false 1 2 b_is_rate
set_option maxHeartbeats 4000000 in
theorem pr_is_rate (Z : Zt P K mg) : Pr P w K mg base 2 "is_rate" "is_rate" s_is_rate ["value"] m_is_rate :=
  prF (pr_mk sc_is_rate (by decide) fun f cdv A outer s H E n hgd hr tk ow => by
    have nd := sc_is_rate.nd
    have hu := roomU hr
    have DK_is_integer_1_least_most := dfk_row (pr_is_integer (P := P) (w := w) (base := base) Z) Z.fk_is_integer_1_least_most rfl
    obtain ⟨_, _, _, cm_Office_RATE, cr_Office_RATE, cv_Office_RATE⟩ := Z.ca_Office_RATE
    exact (bcons (sif (PW.pt (wor (tnot (tval (xisi Z.b_isinstance Z.b_tuple rfl (xv 0)))) (pw_or1 (tcmp (k_ne hu) (xlen Z.b_len (xv 0)) xint)))) (bone (sret xbl)) bnil)
    (bone (sret (xall rfl Z.b_all (xo (olc 1 (own := [("part", 1)]) rfl nd (iu (xv 0)) src_u (blkOk_by (by kernel_rfl)) (by decide) (fun _ _ _ _ _ => pg_name (i := 1) nd rfl (by first | exact Or.inl rfl | exact Or.inr rfl)) (fun _ _ _ _ _ => tsN) (fun _ _ _ _ _ => (xcallK n DK_is_integer_1_least_most hgd hr takesF (by decide) (acons (xv 1) anil) (akC xint (akC (xcattr cm_Office_RATE cr_Office_RATE cv_Office_RATE) akN)))))))))))
/-! ### need_integer: 0 value, 1 least, 2 most -/
theorem sc_need_integer : FnScope ["value", "least", "most"] ["value", "least", "most"] (defScope s_need_integer) := ⟨rfl, rfl, rfl, by decide +kernel, rfl, by decide +kernel, by decide +kernel⟩
noncomputable def b_need_integer (n : Nat) : M Fl :=
  (ifM (notT (asB (callM m_is_integer n (appA 1 (["least", "most"] : List Str).length (argC (var 0) argN) (argC (var 1) (argC (var 2) argN)))))) stuck skipM)
noncomputable def m_need_integer : Fn := fnQ false 3 3 b_need_integer
set_option maxHeartbeats 4000000 in
theorem pr_need_integer (Z : Zt P K mg) : Pr P w K mg base 2 "need_integer" "need_integer" s_need_integer ["value", "least", "most"] m_need_integer :=
  prF (pr_mk sc_need_integer (by decide) fun f cdv A outer s H E n hgd hr tk ow => by
    have nd := sc_need_integer.nd
    have hu := roomU hr
    have DK_is_integer_1_least_most := dfk_row (pr_is_integer (P := P) (w := w) (base := base) Z) Z.fk_is_integer_1_least_most rfl
    exact (bone (sif (tnot (tval (xcallK n DK_is_integer_1_least_most hgd hr tk (by decide) (acons (xv 0) anil) (akC (xv 1) (akC (xv 2) akN))))) (bone sstuck) bnil)))
/-! ### Office.__init__: 0 self, 1 name, 2 source, 3 goal, 4 rate, 5 fee, 6 least, 7 value -/
theorem sc_Office_init : FnScope ["self", "name", "source", "goal", "rate", "fee", "least", "value"] ["self", "name", "source", "goal", "rate", "fee", "least"] (defScope s_Office_init) := ⟨rfl, rfl, rfl, by decide +kernel, rfl, by decide +kernel, by decide +kernel⟩
noncomputable def b_Office_init (n : Nat) : M Fl :=
  (seqM (loopM (itemsM (tupM (argC (var 1) (argC (var 2) (argC (var 3) argN))))) 7 (dropM (callM m_need_name n (argC (var 7) argN))))
    (seqM (ifM (notT (asB (callM m_is_rate n (argC (var 4) argN)))) stuck skipM)
    (seqM (dropM (callM m_need_integer n (appA 1 (["least", "most"] : List Str).length (argC (var 5) argN) (argC (ret (.int 0)) (argC (bnd (var 0) (conM ["Office", "CappedOffice"] "FEE" 20)) argN)))))
    (seqM (dropM (callM m_need_integer n (appA 1 (["least", "most"] : List Str).length (argC (var 6) argN) (argC (ret (.int 0)) (argC (bnd (var 0) (conM ["Office", "CappedOffice"] "LEAST" 1000)) argN)))))
    (seqM (fputM ["Office", "CappedOffice"] "name" (var 0) (var 1))
    (seqM (fputM ["Office", "CappedOffice"] "own_ends" (var 0) (tupM (argC (var 2) (argC (var 3) argN))))
    (seqM (fputM ["Office", "CappedOffice"] "own_rate" (var 0) (var 4))
    (seqM (fputM ["Office", "CappedOffice"] "own_fee" (var 0) (var 5))
    (fputM ["Office", "CappedOffice"] "own_least" (var 0) (var 6))))))))))
noncomputable def m_Office_init : Fn := fnQ false 7 8 b_Office_init
set_option maxHeartbeats 4000000 in
theorem pr_Office_init (Z : Zt P K mg) : Pr P w K mg base 3 "__init__" "Office.__init__" s_Office_init ["self", "name", "source", "goal", "rate", "fee", "least"] m_Office_init :=
  prF (pr_mk sc_Office_init (by decide) fun f cdv A outer s H E n hgd hr tk ow => by
    have nd := sc_Office_init.nd
    have hu := roomU hr
    have D_need_name := df_row (pr_need_name (P := P) (w := w) (base := base) Z) Z.fn_need_name rfl
    have D_is_rate := df_row (pr_is_rate (P := P) (w := w) (base := base) Z) Z.fn_is_rate rfl
    have DK_need_integer_1_least_most := dfk_row (pr_need_integer (P := P) (w := w) (base := base) Z) Z.fk_need_integer_1_least_most rfl
    exact (bcons (sfor 7 rfl nd ow (iu (xtup (acons (xv 1) (acons (xv 2) (acons (xv 3) anil))))) src_u (bone (sexpr (xdef n D_need_name hgd hr tk (by decide) (acons (xv 7) anil)))))
    (bcons (sif (tnot (tval (xdef n D_is_rate hgd hr tk (by decide) (acons (xv 4) anil)))) (bone sstuck) bnil)
    (bcons (sexpr (xcallK n DK_need_integer_1_least_most hgd hr tk (by decide) (acons (xv 5) anil) (akC xint (akC (xcon Z.co_FEE (xv 0)) akN))))
    (bcons (sexpr (xcallK n DK_need_integer_1_least_most hgd hr tk (by decide) (acons (xv 6) anil) (akC xint (akC (xcon Z.co_LEAST (xv 0)) akN))))
    (bcons (sfput Z.fo_name (xv 0) (xv 1))
    (bcons (sfput Z.fo_own_ends (xv 0) (xtup (acons (xv 2) (acons (xv 3) anil))))
    (bcons (sfput Z.fo_own_rate (xv 0) (xv 4))
    (bcons (sfput Z.fo_own_fee (xv 0) (xv 5))
    (bone (sfput Z.fo_own_least (xv 0) (xv 6))))))))))))
noncomputable def ts_CappedOffice_init_5_fee_least : List (Str × Fn) := [("CappedOffice", m_Office_init)]
theorem Tts_CappedOffice_init_5_fee_least (Z : Zt P K mg) {D : Addr} (hD : ClsAt K "CappedOffice" D) : SupTab P w K mg base 3 D "__init__" 7 5 ["fee", "least"] ts_CappedOffice_init_5_fee_least := (supC hD (pr_Office_init Z) Z.su_CappedOffice_CappedOffice_init_5_fee_least (by decide) rfl sup0)
/-! ### CappedOffice.__init__: 0 self, 1 name, 2 source, 3 goal, 4 rate, 5 most, 6 fee, 7 least, 8 __class__ -/
theorem sc_CappedOffice_init : NScope ["self", "name", "source", "goal", "rate", "most", "fee", "least", "__class__"] ["self", "name", "source", "goal", "rate", "most", "fee", "least"] ["__class__"] (defScope s_CappedOffice_init) := nscope_by (by decide +kernel)
noncomputable def b_CappedOffice_init (n : Nat) : M Fl :=
  (seqM (dropM (supM ts_CappedOffice_init_5_fee_least n (appA 4 (["fee", "least"] : List Str).length (argC (var 1) (argC (var 2) (argC (var 3) (argC (var 4) argN)))) (argC (var 6) (argC (var 7) argN)))))
    (seqM (dropM (callM m_need_integer n (appA 1 (["least", "most"] : List Str).length (argC (var 5) argN) (argC (var 7) (argC (bnd (var 0) (conM ["CappedOffice"] "MOST" 1000000)) argN)))))
    (fputM ["CappedOffice"] "own_most" (var 0) (var 5))))
noncomputable def m_CappedOffice_init : Fn := fnQ false 8 9 b_CappedOffice_init
set_option maxHeartbeats 4000000 in
theorem pr_CappedOffice_init (Z : Zt P K mg) : PrS P w K mg base 4 "__init__" "CappedOffice.__init__" "CappedOffice" s_CappedOffice_init ["self", "name", "source", "goal", "rate", "most", "fee", "least"] m_CappedOffice_init :=
  prsF (prs_mk sc_CappedOffice_init (by decide) fun f cc cda D S1 hD A outer s H E n hgd hr tk ow => by
    have nd := sc_CappedOffice_init.nd
    have hu := roomU hr
    have SX := supX_of (P := P) (w := w) (base := base) (N := ["self", "name", "source", "goal", "rate", "most", "fee", "least", "__class__"]) (x := "__init__") (qual := "CappedOffice.__init__") (st := s_CappedOffice_init) (A := A) (outer := outer) (s := s) (H := H) (E := E) S1 rfl rfl rfl rfl
    have Hts_CappedOffice_init_5_fee_least := Tts_CappedOffice_init_5_fee_least (P := P) (w := w) (base := base) Z hD
    have DK_need_integer_1_least_most := dfk_row (pr_need_integer (P := P) (w := w) (base := base) Z) Z.fk_need_integer_1_least_most rfl
    exact (acons1 (aexpr (asup n Hts_CappedOffice_init_5_fee_least SX hgd hr tk (by decide) (acons (xv 1) (acons (xv 2) (acons (xv 3) (acons (xv 4) anil)))) (akC (xv 6) (akC (xv 7) akN))))
    (bcons (sexpr (xcallK n DK_need_integer_1_least_most hgd hr tk (by decide) (acons (xv 5) anil) (akC (xv 7) (akC (xcon Z.co_MOST (xv 0)) akN))))
    (bone (sfput Z.fo_own_most (xv 0) (xv 5))))))
/-! ### _law_one: 0 _law_one_here -/
theorem sc_law_one : FnScope ["_law_one_here"] ["_law_one_here"] (defScope s_law_one) := ⟨rfl, rfl, rfl, by decide +kernel, rfl, by decide +kernel, by decide +kernel⟩
noncomputable def b_law_one (n : Nat) : M Fl :=
  (seqM (ifM (asB (isN false (bin (var 0) (ret (.int 7)) (subO tg_get n)))) (retM (makeT "Office" m_Office_init n (appA 4 (["fee", "least"] : List Str).length (argC (bin (var 0) (ret (.int 0)) (subO tg_get n)) (argC (bin (var 0) (ret (.int 1)) (subO tg_get n)) (argC (bin (var 0) (ret (.int 2)) (subO tg_get n)) (argC (tupM (argC (bin (var 0) (ret (.int 3)) (subO tg_get n)) (argC (bin (var 0) (ret (.int 4)) (subO tg_get n)) argN))) argN)))) (argC (bin (var 0) (ret (.int 5)) (subO tg_get n)) (argC (bin (var 0) (ret (.int 6)) (subO tg_get n)) argN))))) skipM)
    (retM (makeT "CappedOffice" m_CappedOffice_init n (appA 4 (["most", "fee", "least"] : List Str).length (argC (bin (var 0) (ret (.int 0)) (subO tg_get n)) (argC (bin (var 0) (ret (.int 1)) (subO tg_get n)) (argC (bin (var 0) (ret (.int 2)) (subO tg_get n)) (argC (tupM (argC (bin (var 0) (ret (.int 3)) (subO tg_get n)) (argC (bin (var 0) (ret (.int 4)) (subO tg_get n)) argN))) argN)))) (argC (bin (var 0) (ret (.int 7)) (subO tg_get n)) (argC (bin (var 0) (ret (.int 5)) (subO tg_get n)) (argC (bin (var 0) (ret (.int 6)) (subO tg_get n)) argN)))))))
noncomputable def m_law_one : Fn := fnQ true 1 1 b_law_one
set_option maxHeartbeats 4000000 in
theorem pr_law_one (Z : Zt P K mg) : Pr P w K mg base 6 "_law_one" "_law_one" s_law_one ["_law_one_here"] m_law_one :=
  prT (pr_mk sc_law_one (by decide) fun f cdv A outer s H E n hgd hr tk ow => by
    have nd := sc_law_one.nd
    have hu := roomU hr
    have Htg_get := Ttg_get (P := P) (w := w) (base := base) Z
    have M_Office_4_fee_least := mk_row (pr_Office_init (P := P) (w := w) (base := base) Z) Z.mk_Office_4_fee_least rfl
    have M_CappedOffice_4_most_fee_least := mkS_row (pr_CappedOffice_init (P := P) (w := w) (base := base) Z) Z.mk_CappedOffice_4_most_fee_least rfl
    exact (bcons (sif (tisN (xsubO n Htg_get hu hgd hr tk (by decide) (xv 0) xint)) (bone (sret (xmakeT n M_Office_4_fee_least hgd hr tk (by decide) (acons (xsubO n Htg_get hu hgd hr tk (by decide) (xv 0) xint) (acons (xsubO n Htg_get hu hgd hr tk (by decide) (xv 0) xint) (acons (xsubO n Htg_get hu hgd hr tk (by decide) (xv 0) xint) (acons (xtup (acons (xsubO n Htg_get hu hgd hr tk (by decide) (xv 0) xint) (acons (xsubO n Htg_get hu hgd hr tk (by decide) (xv 0) xint) anil))) anil)))) (akC (xsubO n Htg_get hu hgd hr tk (by decide) (xv 0) xint) (akC (xsubO n Htg_get hu hgd hr tk (by decide) (xv 0) xint) akN))))) bnil)
    (bone (sret (xmakeT n M_CappedOffice_4_most_fee_least hgd hr tk (by decide) (acons (xsubO n Htg_get hu hgd hr tk (by decide) (xv 0) xint) (acons (xsubO n Htg_get hu hgd hr tk (by decide) (xv 0) xint) (acons (xsubO n Htg_get hu hgd hr tk (by decide) (xv 0) xint) (acons (xtup (acons (xsubO n Htg_get hu hgd hr tk (by decide) (xv 0) xint) (acons (xsubO n Htg_get hu hgd hr tk (by decide) (xv 0) xint) anil))) anil)))) (akC (xsubO n Htg_get hu hgd hr tk (by decide) (xv 0) xint) (akC (xsubO n Htg_get hu hgd hr tk (by decide) (xv 0) xint) (akC (xsubO n Htg_get hu hgd hr tk (by decide) (xv 0) xint) akN))))))))
/-! ### _law_made: 0 _law_raw_here, 1 _law_one_here -/
theorem sc_law_made : FnScope ["_law_raw_here", "_law_one_here"] ["_law_raw_here"] (defScope s_law_made) := ⟨rfl, rfl, rfl, by decide +kernel, rfl, by decide +kernel, by decide +kernel⟩
noncomputable def b_law_made (n : Nat) : M Fl :=
  (retM (makeT "Market" m_Market_init n (appA 2 ([] : List Str).length (argC (lstM (bnd (bin (var 0) (ret (.str "ends")) (subO tg_get n)) fList)) (argC (lstM (lcM (itemsDM (bin (var 0) (ret (.str "offices")) (subO tg_get n))) 1 [1] (ret true) (callM m_law_one n (argC (var 1) argN)))) argN)) argN)))
noncomputable def m_law_made : Fn := fnQ true 1 2 b_law_made
set_option maxHeartbeats 4000000 in
theorem pr_law_made (Z : Zt P K mg) : Pr P w K mg base 9 "_law_made" "_law_made" s_law_made ["_law_raw_here"] m_law_made :=
  prT (pr_mk sc_law_made (by decide) fun f cdv A outer s H E n hgd hr tk ow => by
    have nd := sc_law_made.nd
    have hu := roomU hr
    have M_Market_2 := mk_row (pr_Market_init (P := P) (w := w) (base := base) Z) Z.mk_Market_2 rfl
    have Htg_get := Ttg_get (P := P) (w := w) (base := base) Z
    have D_law_one := df_row (pr_law_one (P := P) (w := w) (base := base) Z) Z.fn_law_one rfl
    exact (bone (sret (xmakeT n M_Market_2 hgd hr tk (by decide) (acons (xo (olist Z.b_list (xsubO n Htg_get hu hgd hr tk (by decide) (xv 0) xstr))) (acons (xo (olc 1 (own := [("_law_one_here", 1)]) rfl nd (iud (xsubO n Htg_get hu hgd hr tk (by decide) (xv 0) xstr)) src_ud (blkOk_by (by kernel_rfl)) (by decide) (fun _ _ _ _ _ => pg_name (i := 1) nd rfl (by first | exact Or.inl rfl | exact Or.inr rfl)) (fun _ _ _ _ _ => tsN) (fun _ _ _ _ _ => (xdef n D_law_one hgd hr takesF (by decide) (acons (xv 1) anil))))) anil)) akN))))
/-! ### _law_amount: 0 _law_pen_here, 1 _law_number -/
theorem sc_law_amount : FnScope ["_law_pen_here", "_law_number"] ["_law_pen_here"] (defScope s_law_amount) := ⟨rfl, rfl, rfl, by decide +kernel, rfl, by decide +kernel, by decide +kernel⟩
noncomputable def b_law_amount (n : Nat) : M Fl :=
  (seqM (asgM 1 (bin (bin (callM m_law_draw n (argC (var 0) (argC (bin (ret (.int 10)) (ret (.int 6)) opPow) argN))) (bin (ret (.int 10)) (ret (.int 24)) opPow) opMul) (callM m_law_draw n (argC (var 0) (argC (bin (ret (.int 10)) (ret (.int 6)) opPow) argN))) opAdd))
    (retM (callM m_law_pick n (argC (var 0) (argC (lstM (fits (argC (callM m_law_draw n (argC (var 0) (argC (ret (.int 40)) argN))) (argC (callM m_law_draw n (argC (var 0) (argC (ret (.int 2000)) argN))) (argC (ret (.int 0)) (argC (callM m_law_draw n (argC (var 0) (argC (bin (ret (.int 10)) (ret (.int 7)) opPow) argN))) (argC (var 1) (argC (bin (ret (.int 10)) (ret (.int 30)) opPow) argN)))))))) argN)))))
noncomputable def m_law_amount : Fn := fnQ true 1 2 b_law_amount
set_option maxHeartbeats 4000000 in
theorem pr_law_amount (Z : Zt P K mg) : Pr P w K mg base 3 "_law_amount" "_law_amount" s_law_amount ["_law_pen_here"] m_law_amount :=
  prT (pr_mk sc_law_amount (by decide) fun f cdv A outer s H E n hgd hr tk ow => by
    have nd := sc_law_amount.nd
    have hu := roomU hr
    have D_law_draw := df_row (pr_law_draw (P := P) (w := w) (base := base) Z) Z.fn_law_draw rfl
    have D_law_pick := df_row (pr_law_pick (P := P) (w := w) (base := base) Z) Z.fn_law_pick rfl
    exact (bcons (sset 1 nd (xadd (xmul (xdef n D_law_draw hgd hr tk (by decide) (acons (xv 0) (acons (xpow xint xint) anil))) (xpow xint xint)) (xdef n D_law_draw hgd hr tk (by decide) (acons (xv 0) (acons (xpow xint xint) anil)))))
    (bone (sret (xdef n D_law_pick hgd hr tk (by decide) (acons (xv 0) (acons (xo (olst (acons (xdef n D_law_draw hgd hr tk (by decide) (acons (xv 0) (acons xint anil))) (acons (xdef n D_law_draw hgd hr tk (by decide) (acons (xv 0) (acons xint anil))) (acons xint (acons (xdef n D_law_draw hgd hr tk (by decide) (acons (xv 0) (acons (xpow xint xint) anil))) (acons (xv 1) (acons (xpow xint xint) anil)))))))) anil)))))))
/-! ### _law_goal: 0 _law_pen_here, 1 _law_raw_here, 2 _law_many -/
theorem sc_law_goal : FnScope ["_law_pen_here", "_law_raw_here", "_law_many"] ["_law_pen_here", "_law_raw_here"] (defScope s_law_goal) := ⟨rfl, rfl, rfl, by decide +kernel, rfl, by decide +kernel, by decide +kernel⟩
noncomputable def b_law_goal (n : Nat) : M Fl :=
  (seqM (asgM 2 (callM m_law_pick n (argC (var 0) (argC (lstM (fits (argC (ret (.int 0)) (argC (ret (.int 1)) (argC (callM m_law_draw n (argC (var 0) (argC (ret (.int 60)) argN))) (argC (callM m_law_draw n (argC (var 0) (argC (ret (.int 3000)) argN))) (argC (callM m_law_draw n (argC (var 0) (argC (bin (ret (.int 10)) (ret (.int 9)) opPow) argN))) (argC (bin (ret (.int 10)) (ret (.int 30)) opPow) argN)))))))) argN))))
    (retM (tupM (argC (callM m_law_pick n (argC (var 0) (argC (bin (var 1) (ret (.str "ends")) (subO tg_get n)) argN))) (argC (var 2) argN)))))
noncomputable def m_law_goal : Fn := fnQ true 2 3 b_law_goal
set_option maxHeartbeats 4000000 in
theorem pr_law_goal (Z : Zt P K mg) : Pr P w K mg base 6 "_law_goal" "_law_goal" s_law_goal ["_law_pen_here", "_law_raw_here"] m_law_goal :=
  prT (pr_mk sc_law_goal (by decide) fun f cdv A outer s H E n hgd hr tk ow => by
    have nd := sc_law_goal.nd
    have hu := roomU hr
    have D_law_pick := df_row (pr_law_pick (P := P) (w := w) (base := base) Z) Z.fn_law_pick rfl
    have D_law_draw := df_row (pr_law_draw (P := P) (w := w) (base := base) Z) Z.fn_law_draw rfl
    have Htg_get := Ttg_get (P := P) (w := w) (base := base) Z
    exact (bcons (sset 2 nd (xdef n D_law_pick hgd hr tk (by decide) (acons (xv 0) (acons (xo (olst (acons xint (acons xint (acons (xdef n D_law_draw hgd hr tk (by decide) (acons (xv 0) (acons xint anil))) (acons (xdef n D_law_draw hgd hr tk (by decide) (acons (xv 0) (acons xint anil))) (acons (xdef n D_law_draw hgd hr tk (by decide) (acons (xv 0) (acons (xpow xint xint) anil))) (acons (xpow xint xint) anil)))))))) anil))))
    (bone (sret (xtup (acons (xdef n D_law_pick hgd hr tk (by decide) (acons (xv 0) (acons (xsubO n Htg_get hu hgd hr tk (by decide) (xv 1) xstr) anil))) (acons (xv 2) anil)))))))
/-! ### _law_first: 0 _law_raw_here, 1 _law_holding, 2 _law_found, 3 _law_end -/
theorem sc_law_first : FnScope ["_law_raw_here", "_law_holding", "_law_found", "_law_end"] ["_law_raw_here", "_law_holding"] (defScope s_law_first) := ⟨rfl, rfl, rfl, by decide +kernel, rfl, by decide +kernel, by decide +kernel⟩
noncomputable def b_law_first (n : Nat) : M Fl :=
  (seqM (asgM 2 (hndM (bnd (lstM (lcM (itemsDM (bin (var 0) (ret (.str "ends")) (subO tg_get n))) 3 [3] (ret true) (tupM (argC (var 3) (argC (bnd (ret (.int 1)) fNeg) argN))))) fDict)))
    (seqM (dputM (var 2) (bin (var 1) (ret (.int 0)) (subO tg_get n)) (bin (var 1) (ret (.int 1)) (subO tg_get n)))
    (retM (var 2))))
noncomputable def m_law_first : Fn := fnQ true 2 4 b_law_first
set_option maxHeartbeats 4000000 in
theorem pr_law_first (Z : Zt P K mg) : Pr P w K mg base 6 "_law_first" "_law_first" s_law_first ["_law_raw_here", "_law_holding"] m_law_first :=
  prT (pr_mk sc_law_first (by decide) fun f cdv A outer s H E n hgd hr tk ow => by
    have nd := sc_law_first.nd
    have hu := roomU hr
    have Htg_get := Ttg_get (P := P) (w := w) (base := base) Z
    exact (bcons (sset 2 nd (xdict rfl Z.b_dict (xo (olc 3 (own := [("_law_end", 3)]) rfl nd (iud (xsubO n Htg_get hu hgd hr tk (by decide) (xv 0) xstr)) src_ud (blkOk_by (by kernel_rfl)) (by decide) (fun _ _ _ _ _ => pg_name (i := 3) nd rfl (by first | exact Or.inl rfl | exact Or.inr rfl)) (fun _ _ _ _ _ => tsN) (fun _ _ _ _ _ => (xtup (acons (xv 3) (acons (xneg xint) anil))))))))
    (bcons (sdput hu (xv 2) (xsubO n Htg_get hu hgd hr tk (by decide) (xv 1) xint) (xsubO n Htg_get hu hgd hr tk (by decide) (xv 1) xint))
    (bone (sret (xv 2))))))
/-! ### _law_result: 0 _law_one_here, 1 _law_coins, 2 _law_paid -/
theorem sc_law_result : FnScope ["_law_one_here", "_law_coins", "_law_paid"] ["_law_one_here", "_law_coins"] (defScope s_law_result) := ⟨rfl, rfl, rfl, by decide +kernel, rfl, by decide +kernel, by decide +kernel⟩
noncomputable def b_law_result (n : Nat) : M Fl :=
  (seqM (ifM (asB (bin (var 1) (bin (var 0) (ret (.int 6)) (subO tg_get n)) opLtU)) (retM (ret .non)) skipM)
    (seqM (asgM 2 (iteT (asB (isN false (bin (var 0) (ret (.int 7)) (subO tg_get n)))) (var 1) (bin (var 1) (bin (var 0) (ret (.int 7)) (subO tg_get n)) opMin)))
    (retM (bin (ret (.int 0)) (bin (bin (bin (var 2) (bin (var 0) (ret (.int 3)) (subO tg_get n)) opMul) (bin (var 0) (ret (.int 4)) (subO tg_get n)) opDiv) (bin (var 0) (ret (.int 5)) (subO tg_get n)) opSub) opMax))))
noncomputable def m_law_result : Fn := fnQ true 2 3 b_law_result
set_option maxHeartbeats 4000000 in
theorem pr_law_result (Z : Zt P K mg) : Pr P w K mg base 6 "_law_result" "_law_result" s_law_result ["_law_one_here", "_law_coins"] m_law_result :=
  prT (pr_mk sc_law_result (by decide) fun f cdv A outer s H E n hgd hr tk ow => by
    have nd := sc_law_result.nd
    have hu := roomU hr
    have Htg_get := Ttg_get (P := P) (w := w) (base := base) Z
    exact (bcons (sif (tcmp k_ltU (xv 1) (xsubO n Htg_get hu hgd hr tk (by decide) (xv 0) xint)) (bone (sret xnon)) bnil)
    (bcons (sset 2 nd (xif (tisN (xsubO n Htg_get hu hgd hr tk (by decide) (xv 0) xint)) (xv 1) (xmin2 rfl Z.b_min (xv 1) (xsubO n Htg_get hu hgd hr tk (by decide) (xv 0) xint))))
    (bone (sret (xmax2 rfl Z.b_max xint (xsub (xfdiv (xmul (xv 2) (xsubO n Htg_get hu hgd hr tk (by decide) (xv 0) xint)) (xsubO n Htg_get hu hgd hr tk (by decide) (xv 0) xint)) (xsubO n Htg_get hu hgd hr tk (by decide) (xv 0) xint))))))))
/-! ### _law_level: 0 _law_raw_here, 1 _law_level_here, 2 _law_found, 3 _law_one_here, 4 _law_coins -/
theorem sc_law_level : FnScope ["_law_raw_here", "_law_level_here", "_law_found", "_law_one_here", "_law_coins"] ["_law_raw_here", "_law_level_here"] (defScope s_law_level) := ⟨rfl, rfl, rfl, by decide +kernel, rfl, by decide +kernel, by decide +kernel⟩
noncomputable def b_law_level (n : Nat) : M Fl :=
  (seqM (asgM 2 (hndM (bnd (var 1) fDict)))
    (seqM (loopM (itemsDM (bin (var 0) (ret (.str "offices")) (subO tg_get n))) 3 (seqM (asgM 4 (callM m_law_result n (argC (var 3) (argC (bin (var 1) (bin (var 3) (ret (.int 1)) (subO tg_get n)) (subO tg_get n)) argN))))
    (ifM (andT (asB (isN true (var 4))) (asB (bin (var 4) (bin (var 2) (bin (var 3) (ret (.int 2)) (subO tg_get n)) (subO tg_get n)) opGtU))) (dputM (var 2) (bin (var 3) (ret (.int 2)) (subO tg_get n)) (var 4)) skipM)))
    (retM (var 2))))
noncomputable def m_law_level : Fn := fnQ true 2 5 b_law_level
set_option maxHeartbeats 4000000 in
theorem pr_law_level (Z : Zt P K mg) : Pr P w K mg base 7 "_law_level" "_law_level" s_law_level ["_law_raw_here", "_law_level_here"] m_law_level :=
  prT (pr_mk sc_law_level (by decide) fun f cdv A outer s H E n hgd hr tk ow => by
    have nd := sc_law_level.nd
    have hu := roomU hr
    have Htg_get := Ttg_get (P := P) (w := w) (base := base) Z
    have D_law_result := df_row (pr_law_result (P := P) (w := w) (base := base) Z) Z.fn_law_result rfl
    exact (bcons (sset 2 nd (xdict rfl Z.b_dict (xv 1)))
    (bcons (sfor 3 rfl nd ow (iud (xsubO n Htg_get hu hgd hr tk (by decide) (xv 0) xstr)) src_ud (bcons (sset 4 nd (xdef n D_law_result hgd hr tk (by decide) (acons (xv 3) (acons (xsubO n Htg_get hu hgd hr tk (by decide) (xv 1) (xsubO n Htg_get hu hgd hr tk (by decide) (xv 3) xint)) anil))))
    (bone (sif (PW.pt (wand (tnotN (xv 4)) (pw_and1 (tcmp k_gtU (xv 4) (xsubO n Htg_get hu hgd hr tk (by decide) (xv 2) (xsubO n Htg_get hu hgd hr tk (by decide) (xv 3) xint)))))) (bone (sdput hu (xv 2) (xsubO n Htg_get hu hgd hr tk (by decide) (xv 3) xint) (xv 4))) bnil))))
    (bone (sret (xv 2))))))
/-! ### _law_levels: 0 _law_raw_here, 1 _law_holding, 2 _law_goal_here, 3 _law_coins, 4 _law_bound, 5 _law_level_here, 6 _law_k -/
theorem sc_law_levels : FnScope ["_law_raw_here", "_law_holding", "_law_goal_here", "_law_coins", "_law_bound", "_law_level_here", "_law_k"] ["_law_raw_here", "_law_holding", "_law_goal_here", "_law_coins", "_law_bound"] (defScope s_law_levels) := ⟨rfl, rfl, rfl, by decide +kernel, rfl, by decide +kernel, by decide +kernel⟩
noncomputable def b_law_levels (n : Nat) : M Fl :=
  (seqM (asgM 5 (callM m_law_first n (argC (var 0) (argC (var 1) argN))))
    (seqM (loopM (rngM (bin (var 4) (ret (.int 1)) opAdd)) 6 (seqM (ifM (asB (bin (bin (var 5) (var 2) (subO tg_get n)) (var 3) opGeU)) (retM (var 6)) skipM)
    (asgM 5 (callM m_law_level n (argC (var 0) (argC (var 5) argN))))))
    (retM (ret .non))))
noncomputable def m_law_levels : Fn := fnQ true 5 7 b_law_levels
set_option maxHeartbeats 4000000 in
theorem pr_law_levels (Z : Zt P K mg) : Pr P w K mg base 8 "_law_levels" "_law_levels" s_law_levels ["_law_raw_here", "_law_holding", "_law_goal_here", "_law_coins", "_law_bound"] m_law_levels :=
  prT (pr_mk sc_law_levels (by decide) fun f cdv A outer s H E n hgd hr tk ow => by
    have nd := sc_law_levels.nd
    have hu := roomU hr
    have D_law_first := df_row (pr_law_first (P := P) (w := w) (base := base) Z) Z.fn_law_first rfl
    have Htg_get := Ttg_get (P := P) (w := w) (base := base) Z
    have D_law_level := df_row (pr_law_level (P := P) (w := w) (base := base) Z) Z.fn_law_level rfl
    exact (bcons (sset 5 nd (xdef n D_law_first hgd hr tk (by decide) (acons (xv 0) (acons (xv 1) anil))))
    (bcons (sfor 6 rfl nd ow (irng Z.b_range (xadd (xv 4) xint)) src_rng (bcons (sif (tcmp k_geU (xsubO n Htg_get hu hgd hr tk (by decide) (xv 5) (xv 2)) (xv 3)) (bone (sret (xv 6))) bnil)
    (bone (sset 5 nd (xdef n D_law_level hgd hr tk (by decide) (acons (xv 0) (acons (xv 5) anil)))))))
    (bone (sret xnon)))))
/-! ### is_amount: 0 value -/
theorem sc_is_amount : FnScope ["value"] ["value"] (defScope s_is_amount) := ⟨rfl, rfl, rfl, by decide +kernel, rfl, by decide +kernel, by decide +kernel⟩
noncomputable def b_is_amount (n : Nat) : M Fl :=
  (retM (callM m_is_integer n (appA 1 (["least", "most"] : List Str).length (argC (var 0) argN) (argC (ret (.int 0)) (argC (ret (.int 1000000000000000000000000000000)) argN)))))
noncomputable def m_is_amount : Fn := fnQ false 1 1 b_is_amount
set_option maxHeartbeats 4000000 in
theorem pr_is_amount (Z : Zt P K mg) : Pr P w K mg base 2 "is_amount" "is_amount" s_is_amount ["value"] m_is_amount :=
  prF (pr_mk sc_is_amount (by decide) fun f cdv A outer s H E n hgd hr tk ow => by
    have nd := sc_is_amount.nd
    have hu := roomU hr
    have DK_is_integer_1_least_most := dfk_row (pr_is_integer (P := P) (w := w) (base := base) Z) Z.fk_is_integer_1_least_most rfl
    obtain ⟨_, h_COINS⟩ := Z.gi_COINS
    exact (bone (sret (xcallK n DK_is_integer_1_least_most hgd hr tk (by decide) (acons (xv 0) anil) (akC xint (akC (xgI h_COINS) akN))))))
/-! ### is_pair: 0 value -/
theorem sc_is_pair : FnScope ["value"] ["value"] (defScope s_is_pair) := ⟨rfl, rfl, rfl, by decide +kernel, rfl, by decide +kernel, by decide +kernel⟩
noncomputable def b_is_pair (n : Nat) : M Fl :=
  (retM (andV (bnd (var 0) (fIsi "tuple")) (andV (bin (bnd (var 0) (lenU tl_len n)) (ret (.int 2)) opEq) (andV (callM m_is_name n (argC (bin (var 0) (ret (.int 0)) (subO tg_get n)) argN)) (callM m_is_amount n (argC (bin (var 0) (ret (.int 1)) (subO tg_get n)) argN))))))
noncomputable def m_is_pair : Fn := fnQ true 1 1 b_is_pair
set_option maxHeartbeats 4000000 in
theorem pr_is_pair (Z : Zt P K mg) : Pr P w K mg base 6 "is_pair" "is_pair" s_is_pair ["value"] m_is_pair :=
  prT (pr_mk sc_is_pair (by decide) fun f cdv A outer s H E n hgd hr tk ow => by
    have nd := sc_is_pair.nd
    have hu := roomU hr
    have D_is_amount := df_row (pr_is_amount (P := P) (w := w) (base := base) Z) Z.fn_is_amount rfl
    have Htg_get := Ttg_get (P := P) (w := w) (base := base) Z
    have D_is_name := df_row (pr_is_name (P := P) (w := w) (base := base) Z) Z.fn_is_name rfl
    have Htl_len := Ttl_len (P := P) (w := w) (base := base) Z
    exact (bone (sret (xand (xisi Z.b_isinstance Z.b_tuple rfl (xv 0)) (xand (xcmp (k_eq hu) (xlenU n Htl_len hgd hr tk (by decide) Z.b_len (xv 0)) xint) (xand (xdef n D_is_name hgd hr tk (by decide) (acons (xsubO n Htg_get hu hgd hr tk (by decide) (xv 0) xint) anil)) (pe_one (xdef n D_is_amount hgd hr tk (by decide) (acons (xsubO n Htg_get hu hgd hr tk (by decide) (xv 0) xint) anil)))))))))
/-! ### Market.currencies: 0 self -/
theorem sc_Market_currencies : FnScope ["self"] ["self"] (defScope s_Market_currencies) := ⟨rfl, rfl, rfl, by decide +kernel, rfl, by decide +kernel, by decide +kernel⟩
noncomputable def b_Market_currencies (n : Nat) : M Fl :=
  (retM (bnd (var 0) (fldM ["Market"] "own_currencies")))
noncomputable def m_Market_currencies : Fn := fnQ true 1 1 b_Market_currencies
set_option maxHeartbeats 4000000 in
theorem pr_Market_currencies (Z : Zt P K mg) : Pr P w K mg base 1 "currencies" "Market.currencies" s_Market_currencies ["self"] m_Market_currencies :=
  prT (pr_mk sc_Market_currencies (by decide) fun f cdv A outer s H E n hgd hr tk ow => by
    have nd := sc_Market_currencies.nd
    have hu := roomU hr
    exact (bone (sret (xfld Z.fo_own_currencies (xv 0)))))
noncomputable def tp_currencies : List (Str × Fn) := [("Market", m_Market_currencies)]
theorem Ttp_currencies (Z : Zt P K mg) : PropTab P w K mg base 1 "currencies" tp_currencies := (prpC (pr_Market_currencies Z) Z.pp_Market_currencies (by decide) rfl prp0)
/-! ### need_currency: 0 market, 1 value -/
theorem sc_need_currency : FnScope ["market", "value"] ["market", "value"] (defScope s_need_currency) := ⟨rfl, rfl, rfl, by decide +kernel, rfl, by decide +kernel, by decide +kernel⟩
noncomputable def b_need_currency (n : Nat) : M Fl :=
  (ifM (orT (notT (truT (bnd (var 1) (fIsi "str")))) (asB (bin (var 1) (bnd (var 0) (propM tp_currencies n)) (inO th_has n true)))) stuck skipM)
noncomputable def m_need_currency : Fn := fnQ true 2 2 b_need_currency
set_option maxHeartbeats 4000000 in
theorem pr_need_currency (Z : Zt P K mg) : Pr P w K mg base 4 "need_currency" "need_currency" s_need_currency ["market", "value"] m_need_currency :=
  prT (pr_mk sc_need_currency (by decide) fun f cdv A outer s H E n hgd hr tk ow => by
    have nd := sc_need_currency.nd
    have hu := roomU hr
    have Htp_currencies := Ttp_currencies (P := P) (w := w) (base := base) Z
    have Hth_has := Tth_has (P := P) (w := w) (base := base) Z
    exact (bone (sif (PW.pt (wor (tnot (ttru (xisi Z.b_isinstance Z.b_str rfl (xv 1)))) (pw_or1 (tcmpV (k_ninO n Hth_has hu hgd hr (by decide)) (xv 1) (xprop n Htp_currencies hgd hr (by decide) (xv 0)))))) (bone sstuck) bnil)))
/-! ### need_holding: 0 market, 1 value -/
theorem sc_need_holding : FnScope ["market", "value"] ["market", "value"] (defScope s_need_holding) := ⟨rfl, rfl, rfl, by decide +kernel, rfl, by decide +kernel, by decide +kernel⟩
noncomputable def b_need_holding (n : Nat) : M Fl :=
  (seqM (ifM (notT (truT (callM m_is_pair n (argC (var 1) argN)))) stuck skipM)
    (seqM (dropM (callM m_need_currency n (argC (var 0) (argC (bin (var 1) (ret (.int 0)) (subO tg_get n)) argN))))
    (retM (var 1))))
noncomputable def m_need_holding : Fn := fnQ true 2 2 b_need_holding
set_option maxHeartbeats 4000000 in
theorem pr_need_holding (Z : Zt P K mg) : Pr P w K mg base 7 "need_holding" "need_holding" s_need_holding ["market", "value"] m_need_holding :=
  prT (pr_mk sc_need_holding (by decide) fun f cdv A outer s H E n hgd hr tk ow => by
    have nd := sc_need_holding.nd
    have hu := roomU hr
    have D_is_pair := df_row (pr_is_pair (P := P) (w := w) (base := base) Z) Z.fn_is_pair rfl
    have D_need_currency := df_row (pr_need_currency (P := P) (w := w) (base := base) Z) Z.fn_need_currency rfl
    have Htg_get := Ttg_get (P := P) (w := w) (base := base) Z
    exact (bcons (sif (tnot (ttru (xdef n D_is_pair hgd hr tk (by decide) (acons (xv 1) anil)))) (bone sstuck) bnil)
    (bcons (sexpr (xdef n D_need_currency hgd hr tk (by decide) (acons (xv 0) (acons (xsubO n Htg_get hu hgd hr tk (by decide) (xv 1) xint) anil))))
    (bone (sret (xv 1))))))
/-! ### need_amount: 0 value -/
theorem sc_need_amount : FnScope ["value"] ["value"] (defScope s_need_amount) := ⟨rfl, rfl, rfl, by decide +kernel, rfl, by decide +kernel, by decide +kernel⟩
noncomputable def b_need_amount (n : Nat) : M Fl :=
  (dropM (callM m_need_integer n (appA 1 (["least", "most"] : List Str).length (argC (var 0) argN) (argC (ret (.int 0)) (argC (ret (.int 1000000000000000000000000000000)) argN)))))
noncomputable def m_need_amount : Fn := fnQ false 1 1 b_need_amount
set_option maxHeartbeats 4000000 in
theorem pr_need_amount (Z : Zt P K mg) : Pr P w K mg base 3 "need_amount" "need_amount" s_need_amount ["value"] m_need_amount :=
  prF (pr_mk sc_need_amount (by decide) fun f cdv A outer s H E n hgd hr tk ow => by
    have nd := sc_need_amount.nd
    have hu := roomU hr
    have DK_need_integer_1_least_most := dfk_row (pr_need_integer (P := P) (w := w) (base := base) Z) Z.fk_need_integer_1_least_most rfl
    obtain ⟨_, h_COINS⟩ := Z.gi_COINS
    exact (bone (sexpr (xcallK n DK_need_integer_1_least_most hgd hr tk (by decide) (acons (xv 0) anil) (akC xint (akC (xgI h_COINS) akN))))))
/-! ### need_goal: 0 market, 1 holding, 2 currency, 3 coins, 4 most, 5 start -/
theorem sc_need_goal : FnScope ["market", "holding", "currency", "coins", "most", "start"] ["market", "holding", "currency", "coins", "most"] (defScope s_need_goal) := ⟨rfl, rfl, rfl, by decide +kernel, rfl, by decide +kernel, by decide +kernel⟩
noncomputable def b_need_goal (n : Nat) : M Fl :=
  (seqM (asgM 5 (callM m_need_holding n (argC (var 0) (argC (var 1) argN))))
    (seqM (dropM (callM m_need_currency n (argC (var 0) (argC (var 2) argN))))
    (seqM (dropM (callM m_need_amount n (argC (var 3) argN)))
    (seqM (dropM (callM m_need_integer n (appA 1 (["least", "most"] : List Str).length (argC (var 4) argN) (argC (ret (.int 0)) (argC (ret (.int 1000)) argN)))))
    (retM (var 5))))))
noncomputable def m_need_goal : Fn := fnQ true 5 6 b_need_goal
set_option maxHeartbeats 4000000 in
theorem pr_need_goal (Z : Zt P K mg) : Pr P w K mg base 8 "need_goal" "need_goal" s_need_goal ["market", "holding", "currency", "coins", "most"] m_need_goal :=
  prT (pr_mk sc_need_goal (by decide) fun f cdv A outer s H E n hgd hr tk ow => by
    have nd := sc_need_goal.nd
    have hu := roomU hr
    have D_need_holding := df_row (pr_need_holding (P := P) (w := w) (base := base) Z) Z.fn_need_holding rfl
    have D_need_currency := df_row (pr_need_currency (P := P) (w := w) (base := base) Z) Z.fn_need_currency rfl
    have D_need_amount := df_row (pr_need_amount (P := P) (w := w) (base := base) Z) Z.fn_need_amount rfl
    have DK_need_integer_1_least_most := dfk_row (pr_need_integer (P := P) (w := w) (base := base) Z) Z.fk_need_integer_1_least_most rfl
    obtain ⟨_, h_FEWEST⟩ := Z.gi_FEWEST
    exact (bcons (sset 5 nd (xdef n D_need_holding hgd hr tk (by decide) (acons (xv 0) (acons (xv 1) anil))))
    (bcons (sexpr (xdef n D_need_currency hgd hr tk (by decide) (acons (xv 0) (acons (xv 2) anil))))
    (bcons (sexpr (xdef n D_need_amount hgd hr tk (by decide) (acons (xv 3) anil)))
    (bcons (sexpr (xcallK n DK_need_integer_1_least_most hgd hr tk (by decide) (acons (xv 4) anil) (akC xint (akC (xgI h_FEWEST) akN))))
    (bone (sret (xv 5))))))))
/-! ### first_level: 0 market, 1 start, 2 level, 3 currency -/
theorem sc_first_level : FnScope ["market", "start", "level", "currency"] ["market", "start"] (defScope s_first_level) := ⟨rfl, rfl, rfl, by decide +kernel, rfl, by decide +kernel, by decide +kernel⟩
noncomputable def b_first_level (n : Nat) : M Fl :=
  (seqM (asgM 2 (hndM (dcL (itemsDM (bnd (var 0) (propM tp_currencies n))) 3 [3] (ret true) (var 3) (ret (.int (-1))))))
    (seqM (dputM (var 2) (bin (var 1) (ret (.int 0)) (subO tg_get n)) (bin (var 1) (ret (.int 1)) (subO tg_get n)))
    (retM (var 2))))
noncomputable def m_first_level : Fn := fnQ true 2 4 b_first_level
set_option maxHeartbeats 4000000 in
theorem pr_first_level (Z : Zt P K mg) : Pr P w K mg base 6 "first_level" "first_level" s_first_level ["market", "start"] m_first_level :=
  prT (pr_mk sc_first_level (by decide) fun f cdv A outer s H E n hgd hr tk ow => by
    have nd := sc_first_level.nd
    have hu := roomU hr
    have Htp_currencies := Ttp_currencies (P := P) (w := w) (base := base) Z
    obtain ⟨_, h_NEVER⟩ := Z.gi_NEVER
    have Htg_get := Ttg_get (P := P) (w := w) (base := base) Z
    exact (bcons (sdc 2 3 (own := [("currency", 3)]) rfl nd (iud (xprop n Htp_currencies hgd hr (by decide) (xv 0))) src_ud (blkOk_by (by kernel_rfl)) (by decide) (fun _ _ _ _ _ => pg_name (i := 3) nd rfl (by first | exact Or.inl rfl | exact Or.inr rfl)) (fun _ _ _ _ _ => tsN) (fun _ _ _ _ _ => (xv 3)) (fun _ _ _ _ _ => (xgI h_NEVER)))
    (bcons (sdput hu (xv 2) (xsubO n Htg_get hu hgd hr tk (by decide) (xv 1) xint) (xsubO n Htg_get hu hgd hr tk (by decide) (xv 1) xint))
    (bone (sret (xv 2))))))
/-! ### Market.offices: 0 self -/
theorem sc_Market_offices : FnScope ["self"] ["self"] (defScope s_Market_offices) := ⟨rfl, rfl, rfl, by decide +kernel, rfl, by decide +kernel, by decide +kernel⟩
noncomputable def b_Market_offices (n : Nat) : M Fl :=
  (retM (bnd (var 0) (fldM ["Market"] "own_offices")))
noncomputable def m_Market_offices : Fn := fnQ true 1 1 b_Market_offices
set_option maxHeartbeats 4000000 in
theorem pr_Market_offices (Z : Zt P K mg) : Pr P w K mg base 1 "offices" "Market.offices" s_Market_offices ["self"] m_Market_offices :=
  prT (pr_mk sc_Market_offices (by decide) fun f cdv A outer s H E n hgd hr tk ow => by
    have nd := sc_Market_offices.nd
    have hu := roomU hr
    exact (bone (sret (xfld Z.fo_own_offices (xv 0)))))
noncomputable def tp_offices : List (Str × Fn) := [("Market", m_Market_offices)]
theorem Ttp_offices (Z : Zt P K mg) : PropTab P w K mg base 1 "offices" tp_offices := (prpC (pr_Market_offices Z) Z.pp_Market_offices (by decide) rfl prp0)
/-! ### Office.result: 0 self, 1 coins, 2 p, 3 q -/
theorem sc_Office_result : FnScope ["self", "coins", "p", "q"] ["self", "coins"] (defScope s_Office_result) := ⟨rfl, rfl, rfl, by decide +kernel, rfl, by decide +kernel, by decide +kernel⟩
noncomputable def b_Office_result (n : Nat) : M Fl :=
  (seqM (ifM (asB (bin (var 1) (bnd (var 0) (fldM ["Office", "CappedOffice"] "own_least")) opLt)) (retM (ret .non)) skipM)
    (seqM (unpM [2, 3] (bnd (var 0) (fldM ["Office", "CappedOffice"] "own_rate")))
    (retM (bin (ret (.int 0)) (bin (bin (bin (var 1) (var 2) opMul) (var 3) opDiv) (bnd (var 0) (fldM ["Office", "CappedOffice"] "own_fee")) opSub) opMax))))
noncomputable def m_Office_result : Fn := fnQ false 2 4 b_Office_result
set_option maxHeartbeats 4000000 in
theorem pr_Office_result (Z : Zt P K mg) : Pr P w K mg base 1 "result" "Office.result" s_Office_result ["self", "coins"] m_Office_result :=
  prF (pr_mk sc_Office_result (by decide) fun f cdv A outer s H E n hgd hr tk ow => by
    have nd := sc_Office_result.nd
    have hu := roomU hr
    exact (bcons (sif (tcmp k_lt (xv 1) (xfld Z.fo_own_least (xv 0))) (bone (sret xnon)) bnil)
    (bcons (sunp [2, 3] rfl (xfld Z.fo_own_rate (xv 0)) (pgs_cons (gn 2 nd) (pgs_cons (gn 3 nd) pgs_nil)))
    (bone (sret (xmax2 rfl Z.b_max xint (xsub (xfdiv (xmul (xv 1) (xv 2)) (xv 3)) (xfld Z.fo_own_fee (xv 0)))))))))
noncomputable def ts_CappedOffice_result_2 : List (Str × Fn) := [("CappedOffice", m_Office_result)]
theorem Tts_CappedOffice_result_2 (Z : Zt P K mg) {D : Addr} (hD : ClsAt K "CappedOffice" D) : SupTab P w K mg base 1 D "result" 2 2 [] ts_CappedOffice_result_2 := (supC hD (pr_Office_result Z) Z.su_CappedOffice_CappedOffice_result_2 (by decide) rfl sup0)
/-! ### CappedOffice.result: 0 self, 1 coins, 2 __class__ -/
theorem sc_CappedOffice_result : NScope ["self", "coins", "__class__"] ["self", "coins"] ["__class__"] (defScope s_CappedOffice_result) := nscope_by (by decide +kernel)
noncomputable def b_CappedOffice_result (n : Nat) : M Fl :=
  (seqM (retM (supM ts_CappedOffice_result_2 n (appA 1 ([] : List Str).length (argC (bin (var 1) (bnd (var 0) (fldM ["CappedOffice"] "own_most")) opMin) argN) argN)))
    skipM)
noncomputable def m_CappedOffice_result : Fn := fnQ false 2 3 b_CappedOffice_result
set_option maxHeartbeats 4000000 in
theorem pr_CappedOffice_result (Z : Zt P K mg) : PrS P w K mg base 2 "result" "CappedOffice.result" "CappedOffice" s_CappedOffice_result ["self", "coins"] m_CappedOffice_result :=
  prsF (prs_mk sc_CappedOffice_result (by decide) fun f cc cda D S1 hD A outer s H E n hgd hr tk ow => by
    have nd := sc_CappedOffice_result.nd
    have hu := roomU hr
    have SX := supX_of (P := P) (w := w) (base := base) (N := ["self", "coins", "__class__"]) (x := "result") (qual := "CappedOffice.result") (st := s_CappedOffice_result) (A := A) (outer := outer) (s := s) (H := H) (E := E) S1 rfl rfl rfl rfl
    have Hts_CappedOffice_result_2 := Tts_CappedOffice_result_2 (P := P) (w := w) (base := base) Z hD
    exact (acons1 (aret (asup n Hts_CappedOffice_result_2 SX hgd hr tk (by decide) (acons (xmin2 rfl Z.b_min (xv 1) (xfld Z.fo_own_most (xv 0))) anil) akN))
    bnil))
noncomputable def tm_result_2 : List (Str × Fn) := [("Office", m_Office_result), ("CappedOffice", m_CappedOffice_result)]
theorem Ttm_result_2 (Z : Zt P K mg) : TabOk P w K mg base 2 "result" 2 2 [] tm_result_2 := (tabC (mrow (pr_Office_result Z) Z.me_Office_result_2 (by decide) rfl) (tabC (mrowS (pr_CappedOffice_result Z) Z.me_CappedOffice_result_2 (by decide) rfl) tab0))
/-! ### level_after: 0 market, 1 level, 2 found, 3 office, 4 coins -/
theorem sc_level_after : FnScope ["market", "level", "found", "office", "coins"] ["market", "level"] (defScope s_level_after) := ⟨rfl, rfl, rfl, by decide +kernel, rfl, by decide +kernel, by decide +kernel⟩
noncomputable def b_level_after (n : Nat) : M Fl :=
  (seqM (asgM 2 (hndM (bnd (var 1) fDict)))
    (seqM (loopM (itemsDM (bnd (var 0) (propM tp_offices n))) 3 (seqM (asgM 4 (methM tm_result_2 n "result" (var 3) (appA 1 ([] : List Str).length (argC (bin (var 1) (bnd (var 3) (propM tp_source n)) (subO tg_get n)) argN) argN)))
    (ifM (andT (asB (isN true (var 4))) (asB (bin (var 4) (bin (var 2) (bnd (var 3) (propM tp_goal n)) (subO tg_get n)) opGtU))) (dputM (var 2) (bnd (var 3) (propM tp_goal n)) (var 4)) skipM)))
    (retM (var 2))))
noncomputable def m_level_after : Fn := fnQ true 2 5 b_level_after
set_option maxHeartbeats 4000000 in
theorem pr_level_after (Z : Zt P K mg) : Pr P w K mg base 6 "level_after" "level_after" s_level_after ["market", "level"] m_level_after :=
  prT (pr_mk sc_level_after (by decide) fun f cdv A outer s H E n hgd hr tk ow => by
    have nd := sc_level_after.nd
    have hu := roomU hr
    have Htp_offices := Ttp_offices (P := P) (w := w) (base := base) Z
    have Htm_result_2 := Ttm_result_2 (P := P) (w := w) (base := base) Z
    have Htp_source := Ttp_source (P := P) (w := w) (base := base) Z
    have Htg_get := Ttg_get (P := P) (w := w) (base := base) Z
    have Htp_goal := Ttp_goal (P := P) (w := w) (base := base) Z
    exact (bcons (sset 2 nd (xdict rfl Z.b_dict (xv 1)))
    (bcons (sfor 3 rfl nd ow (iud (xprop n Htp_offices hgd hr (by decide) (xv 0))) src_ud (bcons (sset 4 nd (xmeth n Htm_result_2 hgd hr tk (by decide) (xv 3) (acons (xsubO n Htg_get hu hgd hr tk (by decide) (xv 1) (xprop n Htp_source hgd hr (by decide) (xv 3))) anil) akN))
    (bone (sif (PW.pt (wand (tnotN (xv 4)) (pw_and1 (tcmp k_gtU (xv 4) (xsubO n Htg_get hu hgd hr tk (by decide) (xv 2) (xprop n Htp_goal hgd hr (by decide) (xv 3))))))) (bone (sdput hu (xv 2) (xprop n Htp_goal hgd hr (by decide) (xv 3)) (xv 4))) bnil))))
    (bone (sret (xv 2))))))
/-! ### levels_to: 0 market, 1 start, 2 currency, 3 coins, 4 most, 5 found -/
theorem sc_levels_to : FnScope ["market", "start", "currency", "coins", "most", "found"] ["market", "start", "currency", "coins", "most"] (defScope s_levels_to) := ⟨rfl, rfl, rfl, by decide +kernel, rfl, by decide +kernel, by decide +kernel⟩
noncomputable def b_levels_to (n : Nat) : M Fl :=
  (seqM (asgO 5 (fits (argC (callM m_first_level n (argC (var 0) (argC (var 1) argN))) argN)))
    (seqM (whM (asB (bin (bin (binL 5 (bnd (ret (.int 1)) fNeg) opIx) (var 2) (subO tg_get n)) (var 3) opLtU)) (seqM (ifM (asB (bin (bnd (brw 5) fLen) (var 4) opGtU)) (retM (ret .non)) skipM)
    (dropM (appM 5 (callM m_level_after n (argC (var 0) (argC (binL 5 (bnd (ret (.int 1)) fNeg) opIx) argN)))))) n)
    (retM (var 5))))
noncomputable def m_levels_to : Fn := fnQ true 5 6 b_levels_to
set_option maxHeartbeats 4000000 in
theorem pr_levels_to (Z : Zt P K mg) : Pr P w K mg base 7 "levels_to" "levels_to" s_levels_to ["market", "start", "currency", "coins", "most"] m_levels_to :=
  prT (pr_mk sc_levels_to (by decide) fun f cdv A outer s H E n hgd hr tk ow => by
    have nd := sc_levels_to.nd
    have hu := roomU hr
    have D_first_level := df_row (pr_first_level (P := P) (w := w) (base := base) Z) Z.fn_first_level rfl
    have Htg_get := Ttg_get (P := P) (w := w) (base := base) Z
    have D_level_after := df_row (pr_level_after (P := P) (w := w) (base := base) Z) Z.fn_level_after rfl
    exact (bcons (sown 5 nd (olst (acons (xdef n D_first_level hgd hr tk (by decide) (acons (xv 0) (acons (xv 1) anil))) anil)))
    (bcons (swhile n ow (tcmp k_ltU (xsubO n Htg_get hu hgd hr tk (by decide) (xixL 5 (xneg xint)) (xv 2)) (xv 3)) (bcons (sif (tcmp k_gtU (xlenL 5 Z.b_len) (xv 4)) (bone (sret xnon)) bnil)
    (bone (sexpr (xapp 5 (xdef n D_level_after hgd hr tk (by decide) (acons (xv 0) (acons (xixL 5 (xneg xint)) anil))))))))
    (bone (sret (xv 5))))))
/-! ### fewest: 0 market, 1 holding, 2 currency, 3 coins, 4 most, 5 start, 6 found -/
theorem sc_fewest : FnScope ["market", "holding", "currency", "coins", "most", "start", "found"] ["market", "holding", "currency", "coins", "most"] (defScope s_fewest) := ⟨rfl, rfl, rfl, by decide +kernel, rfl, by decide +kernel, by decide +kernel⟩
noncomputable def b_fewest (n : Nat) : M Fl :=
  (seqM (asgM 5 (callM m_need_goal n (argC (var 0) (argC (var 1) (argC (var 2) (argC (var 3) (argC (var 4) argN)))))))
    (seqM (asgM 6 (callM m_levels_to n (argC (var 0) (argC (var 5) (argC (var 2) (argC (var 3) (argC (var 4) argN)))))))
    (retM (iteT (asB (isN false (var 6))) (ret .non) (bin (bnd (var 6) (lenU tl_len n)) (ret (.int 1)) opSub)))))
noncomputable def m_fewest : Fn := fnQ true 5 7 b_fewest
set_option maxHeartbeats 4000000 in
theorem pr_fewest (Z : Zt P K mg) : Pr P w K mg base 9 "fewest" "fewest" s_fewest ["market", "holding", "currency", "coins", "most"] m_fewest :=
  prT (pr_mk sc_fewest (by decide) fun f cdv A outer s H E n hgd hr tk ow => by
    have nd := sc_fewest.nd
    have hu := roomU hr
    have D_need_goal := df_row (pr_need_goal (P := P) (w := w) (base := base) Z) Z.fn_need_goal rfl
    have D_levels_to := df_row (pr_levels_to (P := P) (w := w) (base := base) Z) Z.fn_levels_to rfl
    have Htl_len := Ttl_len (P := P) (w := w) (base := base) Z
    exact (bcons (sset 5 nd (xdef n D_need_goal hgd hr tk (by decide) (acons (xv 0) (acons (xv 1) (acons (xv 2) (acons (xv 3) (acons (xv 4) anil)))))))
    (bcons (sset 6 nd (xdef n D_levels_to hgd hr tk (by decide) (acons (xv 0) (acons (xv 5) (acons (xv 2) (acons (xv 3) (acons (xv 4) anil)))))))
    (bone (sret (xif (tisN (xv 6)) xnon (xsub (xlenU n Htl_len hgd hr tk (by decide) Z.b_len (xv 6)) xint)))))))
/-! ### law: 0 _law_script, 1 _law_pen_here, 2 _law_turn, 3 _law_raw_here, 4 _law_market, 5 _law_holding, 6 _law_goal_here, 7 _law_coins, 8 _law_far, 9 _law_known, 10 _law_due, 11 _law_again, 12 _law_bounds, 13 _law_bound -/
theorem sc_law : FnScope ["_law_script", "_law_pen_here", "_law_turn", "_law_raw_here", "_law_market", "_law_holding", "_law_goal_here", "_law_coins", "_law_far", "_law_known", "_law_due", "_law_again", "_law_bounds", "_law_bound"] ["_law_script"] (defScope s_law) := ⟨rfl, rfl, rfl, by decide +kernel, rfl, by decide +kernel, by decide +kernel⟩
noncomputable def b_law (n : Nat) : M Fl :=
  (seqM (asgM 1 (callM m_law_pen n (argC (var 0) argN)))
    (seqM (loopM (rngM (bin (ret (.int 2)) (bin (ret (.int 2)) (bnd (var 0) (lenU tl_len n)) opMin) opAdd)) 2 (seqM (asgM 3 (callM m_law_raw n (argC (var 1) (argC (ret (.int 8)) (argC (ret (.int 9)) argN)))))
    (seqM (par2 4 5 (callM m_law_made n (argC (var 3) argN)) (tupM (argC (callM m_law_pick n (argC (var 1) (argC (bin (var 3) (ret (.str "ends")) (subO tg_get n)) argN))) (argC (callM m_law_amount n (argC (var 1) argN)) argN))))
    (seqM (unpM [6, 7] (callM m_law_goal n (argC (var 1) (argC (var 3) argN))))
    (seqM (asgM 8 (iteT (asB (bin (callM m_law_draw n (argC (var 1) (argC (ret (.int 8)) argN))) (ret (.int 0)) opEq)) (ret (.int 1000)) (ret (.int 70))))
    (seqM (asgM 9 (callM m_law_levels n (argC (var 3) (argC (var 5) (argC (var 6) (argC (var 7) (argC (var 8) argN)))))))
    (seqM (asgM 10 (iteT (andT (asB (isN true (var 9))) (asB (bin (var 9) (ret (.int 60)) opLeU))) (var 9) (ret .non)))
    (seqM (loopM (rngM (ret (.int 2))) 11 (ifM (asB (bin (bnd (callM m_fewest n (apD (argC (var 4) (argC (var 5) (argC (var 6) (argC (var 7) argN)))) [(.int 60)])) fRepr) (bnd (var 10) fRepr) opNe)) (retM (ret (.bl false))) skipM))
    (seqM (asgM 12 (lstM (fits (argC (ret (.int 0)) (argC (ret (.int 60)) (argC (var 8) (argC (callM m_law_draw n (argC (var 1) (argC (ret (.int 70)) argN))) argN)))))))
    (seqM (ifM (asB (isN true (var 9))) (asgM 12 (bin (bin (var 12) (lstM (fits (argC (var 9) argN))) opAdd) (lstM (repO (lstM (fits (argC (bin (var 9) (ret (.int 1)) opSub) argN))) (bnd (bin (var 9) (ret (.int 0)) opGtU) fInt))) opAdd)) skipM)
    (loopM (itemsDM (var 12)) 13 (seqM (asgM 10 (iteT (andT (asB (isN true (var 9))) (asB (bin (var 9) (var 13) opLeU))) (var 9) (ret .non)))
    (ifM (asB (bin (bnd (callM m_fewest n (appA 4 (["most"] : List Str).length (argC (var 4) (argC (var 5) (argC (var 6) (argC (var 7) argN)))) (argC (var 13) argN))) fRepr) (bnd (var 10) fRepr) opNe)) (retM (ret (.bl false))) skipM)))))))))))))
    (retM (ret (.bl true)))))
noncomputable def m_law : Fn := fnQ true 1 14 b_law
set_option maxHeartbeats 4000000 in
theorem pr_law (Z : Zt P K mg) : Pr P w K mg base 10 "law" "law" s_law ["_law_script"] m_law :=
  prT (pr_mk sc_law (by decide) fun f cdv A outer s H E n hgd hr tk ow => by
    have nd := sc_law.nd
    have hu := roomU hr
    have D_law_pen := df_row (pr_law_pen (P := P) (w := w) (base := base) Z) Z.fn_law_pen rfl
    have Htl_len := Ttl_len (P := P) (w := w) (base := base) Z
    have D_law_raw := df_row (pr_law_raw (P := P) (w := w) (base := base) Z) Z.fn_law_raw rfl
    have D_law_made := df_row (pr_law_made (P := P) (w := w) (base := base) Z) Z.fn_law_made rfl
    have D_law_amount := df_row (pr_law_amount (P := P) (w := w) (base := base) Z) Z.fn_law_amount rfl
    have D_law_pick := df_row (pr_law_pick (P := P) (w := w) (base := base) Z) Z.fn_law_pick rfl
    have Htg_get := Ttg_get (P := P) (w := w) (base := base) Z
    have D_law_goal := df_row (pr_law_goal (P := P) (w := w) (base := base) Z) Z.fn_law_goal rfl
    have D_law_draw := df_row (pr_law_draw (P := P) (w := w) (base := base) Z) Z.fn_law_draw rfl
    have D_law_levels := df_row (pr_law_levels (P := P) (w := w) (base := base) Z) Z.fn_law_levels rfl
    have DD_fewest := dfd_row (dp := [(.int 60)]) (pr_fewest (P := P) (w := w) (base := base) Z) Z.fd_fewest rfl fun _ => .cons (.int 60) .nil
    have DK_fewest_4_most := dfk_row (pr_fewest (P := P) (w := w) (base := base) Z) Z.fk_fewest_4_most rfl
    exact (bcons (sset 1 nd (xdef n D_law_pen hgd hr tk (by decide) (acons (xv 0) anil)))
    (bcons (sfor 2 rfl nd ow (irng Z.b_range (xadd xint (xmin2 rfl Z.b_min xint (xlenU n Htl_len hgd hr tk (by decide) Z.b_len (xv 0))))) src_rng (bcons (sset 3 nd (xdef n D_law_raw hgd hr tk (by decide) (acons (xv 1) (acons xint (acons xint anil)))))
    (bcons (spar2 4 5 rfl nd (xdef n D_law_made hgd hr tk (by decide) (acons (xv 3) anil)) (xtup (acons (xdef n D_law_pick hgd hr tk (by decide) (acons (xv 1) (acons (xsubO n Htg_get hu hgd hr tk (by decide) (xv 3) xstr) anil))) (acons (xdef n D_law_amount hgd hr tk (by decide) (acons (xv 1) anil)) anil))))
    (bcons (sunp [6, 7] rfl (xdef n D_law_goal hgd hr tk (by decide) (acons (xv 1) (acons (xv 3) anil))) (pgs_cons (gn 6 nd) (pgs_cons (gn 7 nd) pgs_nil)))
    (bcons (sset 8 nd (xif (tcmp (k_eq hu) (xdef n D_law_draw hgd hr tk (by decide) (acons (xv 1) (acons xint anil))) xint) xint xint))
    (bcons (sset 9 nd (xdef n D_law_levels hgd hr tk (by decide) (acons (xv 3) (acons (xv 5) (acons (xv 6) (acons (xv 7) (acons (xv 8) anil)))))))
    (bcons (sset 10 nd (xif (PW.pt (wand (tnotN (xv 9)) (pw_and1 (tcmp k_leU (xv 9) xint)))) (xv 9) xnon))
    (bcons (sfor 11 rfl nd ow (irng Z.b_range xint) src_rng (bone (sif (tcmp (k_ne hu) (xrepr hgd hu Z.b_repr (xdefD n DD_fewest hgd hr tk (by decide) (acons (xv 4) (acons (xv 5) (acons (xv 6) (acons (xv 7) anil)))))) (xrepr hgd hu Z.b_repr (xv 10))) (bone (sret xbl)) bnil)))
    (bcons (sset 12 nd (xo (olst (acons xint (acons xint (acons (xv 8) (acons (xdef n D_law_draw hgd hr tk (by decide) (acons (xv 1) (acons xint anil))) anil)))))))
    (bcons (sif (tnotN (xv 9)) (bone (sset 12 nd (xadd (xadd (xv 12) (xo (olst (acons (xv 9) anil)))) (xo (omul (xo (olst (acons (xsub (xv 9) xint) anil))) (xtoint Z.b_int (xcmp k_gtU (xv 9) xint))))))) bnil)
    (bone (sfor 13 rfl nd ow (iud (xv 12)) src_ud (bcons (sset 10 nd (xif (PW.pt (wand (tnotN (xv 9)) (pw_and1 (tcmp k_leU (xv 9) (xv 13))))) (xv 9) xnon))
    (bone (sif (tcmp (k_ne hu) (xrepr hgd hu Z.b_repr (xcallK n DK_fewest_4_most hgd hr tk (by decide) (acons (xv 4) (acons (xv 5) (acons (xv 6) (acons (xv 7) anil)))) (akC (xv 13) akN))) (xrepr hgd hu Z.b_repr (xv 10))) (bone (sret xbl)) bnil)))))))))))))))
    (bone (sret xbl)))))
end
set_option maxHeartbeats 0 in
theorem all_mk {l : PySem.W.OpenLaw} {w : World} {K : PySem.W.Frag} {h : Heap} {mg : Str → Option Value} {fa : Addr} (X : K.In h) (G : h.Ns mainGlobals mg) (hfa : mg "law" = some (.ref fa))
    {f_law_pen : Addr} {oc_law_pen : Value} {od_law_pen : Option Addr} {an_law_pen : Option Addr} {sl_law_pen : Array (Option Value)} {kV_law_pen : Value} {dc_law_pen : Value} {pm_law_pen : Value} {cd_law_pen : Value} {ct_law_pen : Value} {C_Market : Addr} {f_Market_len : Addr} {oc_Market_len : Value} {od_Market_len : Option Addr} {an_Market_len : Option Addr} {sl_Market_len : Array (Option Value)} {kV_Market_len : Value} {dc_Market_len : Value} {pm_Market_len : Value} {cd_Market_len : Value} {ct_Market_len : Value} {f_law_draw : Addr} {oc_law_draw : Value} {od_law_draw : Option Addr} {an_law_draw : Option Addr} {sl_law_draw : Array (Option Value)} {kV_law_draw : Value} {dc_law_draw : Value} {pm_law_draw : Value} {cd_law_draw : Value} {ct_law_draw : Value} {f_law_pick : Addr} {oc_law_pick : Value} {od_law_pick : Option Addr} {an_law_pick : Option Addr} {sl_law_pick : Array (Option Value)} {kV_law_pick : Value} {dc_law_pick : Value} {pm_law_pick : Value} {cd_law_pick : Value} {ct_law_pick : Value} {f_law_names : Addr} {oc_law_names : Value} {od_law_names : Option Addr} {an_law_names : Option Addr} {sl_law_names : Array (Option Value)} {kV_law_names : Value} {dc_law_names : Value} {pm_law_names : Value} {cd_law_names : Value} {ct_law_names : Value} {f_law_office : Addr} {oc_law_office : Value} {od_law_office : Option Addr} {an_law_office : Option Addr} {sl_law_office : Array (Option Value)} {kV_law_office : Value} {dc_law_office : Value} {pm_law_office : Value} {cd_law_office : Value} {ct_law_office : Value} {f_Market_contains : Addr} {oc_Market_contains : Value} {od_Market_contains : Option Addr} {an_Market_contains : Option Addr} {sl_Market_contains : Array (Option Value)} {kV_Market_contains : Value} {dc_Market_contains : Value} {pm_Market_contains : Value} {cd_Market_contains : Value} {ct_Market_contains : Value} {f_Market_getitem : Addr} {oc_Market_getitem : Value} {od_Market_getitem : Option Addr} {an_Market_getitem : Option Addr} {sl_Market_getitem : Array (Option Value)} {kV_Market_getitem : Value} {dc_Market_getitem : Value} {pm_Market_getitem : Value} {cd_Market_getitem : Value} {ct_Market_getitem : Value} {f_law_ring : Addr} {oc_law_ring : Value} {od_law_ring : Option Addr} {an_law_ring : Option Addr} {sl_law_ring : Array (Option Value)} {kV_law_ring : Value} {dc_law_ring : Value} {pm_law_ring : Value} {cd_law_ring : Value} {ct_law_ring : Value} {f_law_shuffled : Addr} {oc_law_shuffled : Value} {od_law_shuffled : Option Addr} {an_law_shuffled : Option Addr} {sl_law_shuffled : Array (Option Value)} {kV_law_shuffled : Value} {dc_law_shuffled : Value} {pm_law_shuffled : Value} {cd_law_shuffled : Value} {ct_law_shuffled : Value} {f_law_raw : Addr} {oc_law_raw : Value} {od_law_raw : Option Addr} {an_law_raw : Option Addr} {sl_law_raw : Array (Option Value)} {kV_law_raw : Value} {dc_law_raw : Value} {pm_law_raw : Value} {cd_law_raw : Value} {ct_law_raw : Value} {f_is_list : Addr} {oc_is_list : Value} {od_is_list : Option Addr} {an_is_list : Option Addr} {sl_is_list : Array (Option Value)} {kV_is_list : Value} {dc_is_list : Value} {pm_is_list : Value} {cd_is_list : Value} {ct_is_list : Value} {tg_ALPHABET : Tok} {tg_LETTERS : Tok} {f_is_name : Addr} {oc_is_name : Value} {od_is_name : Option Addr} {an_is_name : Option Addr} {sl_is_name : Array (Option Value)} {kV_is_name : Value} {dc_is_name : Value} {pm_is_name : Value} {cd_is_name : Value} {ct_is_name : Value} {f_need_name : Addr} {oc_need_name : Value} {od_need_name : Option Addr} {an_need_name : Option Addr} {sl_need_name : Array (Option Value)} {kV_need_name : Value} {dc_need_name : Value} {pm_need_name : Value} {cd_need_name : Value} {ct_need_name : Value} {tv_Market_CURRENCIES : Tok} {f_need_currencies : Addr} {oc_need_currencies : Value} {od_need_currencies : Option Addr} {an_need_currencies : Option Addr} {sl_need_currencies : Array (Option Value)} {kV_need_currencies : Value} {dc_need_currencies : Value} {pm_need_currencies : Value} {cd_need_currencies : Value} {ct_need_currencies : Value} {C_Office : Addr} {C_CappedOffice : Addr} {p_Office_goal : Addr} {pz_Office_goal : List Value} {f_Office_goal : Addr} {oc_Office_goal : Value} {od_Office_goal : Option Addr} {an_Office_goal : Option Addr} {sl_Office_goal : Array (Option Value)} {kV_Office_goal : Value} {dc_Office_goal : Value} {pm_Office_goal : Value} {cd_Office_goal : Value} {ct_Office_goal : Value} {p_Office_source : Addr} {pz_Office_source : List Value} {f_Office_source : Addr} {oc_Office_source : Value} {od_Office_source : Option Addr} {an_Office_source : Option Addr} {sl_Office_source : Array (Option Value)} {kV_Office_source : Value} {dc_Office_source : Value} {pm_Office_source : Value} {cd_Office_source : Value} {ct_Office_source : Value} {f_need_ends : Addr} {oc_need_ends : Value} {od_need_ends : Option Addr} {an_need_ends : Option Addr} {sl_need_ends : Array (Option Value)} {kV_need_ends : Value} {dc_need_ends : Value} {pm_need_ends : Value} {cd_need_ends : Value} {ct_need_ends : Value} {tv_Market_OFFICES : Tok} {f_need_offices : Addr} {oc_need_offices : Value} {od_need_offices : Option Addr} {an_need_offices : Option Addr} {sl_need_offices : Array (Option Value)} {kV_need_offices : Value} {dc_need_offices : Value} {pm_need_offices : Value} {cd_need_offices : Value} {ct_need_offices : Value} {f_Market_init : Addr} {oc_Market_init : Value} {od_Market_init : Option Addr} {an_Market_init : Option Addr} {sl_Market_init : Array (Option Value)} {kV_Market_init : Value} {dc_Market_init : Value} {pm_Market_init : Value} {cd_Market_init : Value} {ct_Market_init : Value} {T_Market_init : Addr} {oT_Market_init : Obj} {its_Market_init : Array Value} {mT_Market_init : Nat} {f_is_integer : Addr} {oc_is_integer : Value} {od_is_integer : Option Addr} {an_is_integer : Option Addr} {sl_is_integer : Array (Option Value)} {kV_is_integer : Value} {dc_is_integer : Value} {pm_is_integer : Value} {cd_is_integer : Value} {ct_is_integer : Value} {tv_Office_RATE : Tok} {f_is_rate : Addr} {oc_is_rate : Value} {od_is_rate : Option Addr} {an_is_rate : Option Addr} {sl_is_rate : Array (Option Value)} {kV_is_rate : Value} {dc_is_rate : Value} {pm_is_rate : Value} {cd_is_rate : Value} {ct_is_rate : Value} {f_need_integer : Addr} {oc_need_integer : Value} {od_need_integer : Option Addr} {an_need_integer : Option Addr} {sl_need_integer : Array (Option Value)} {kV_need_integer : Value} {dc_need_integer : Value} {pm_need_integer : Value} {cd_need_integer : Value} {ct_need_integer : Value} {tk_CappedOffice_FEE : Tok} {tk_Office_FEE : Tok} {tk_CappedOffice_LEAST : Tok} {tk_Office_LEAST : Tok} {f_Office_init : Addr} {oc_Office_init : Value} {od_Office_init : Option Addr} {an_Office_init : Option Addr} {sl_Office_init : Array (Option Value)} {kV_Office_init : Value} {dc_Office_init : Value} {pm_Office_init : Value} {cd_Office_init : Value} {ct_Office_init : Value} {tk_CappedOffice_MOST : Tok} {f_CappedOffice_init : Addr} {cc_CappedOffice_init : Addr} {cda_CappedOffice_init : Addr} {oc_CappedOffice_init : Value} {od_CappedOffice_init : Option Addr} {an_CappedOffice_init : Option Addr} {sl_CappedOffice_init : Array (Option Value)} {kV_CappedOffice_init : Value} {dc_CappedOffice_init : Value} {pm_CappedOffice_init : Value} {ct_CappedOffice_init : Value} {oce_CappedOffice_init : Value} {ode_CappedOffice_init : Option Addr} {sle_CappedOffice_init : Array (Option Value)} {ocg_CappedOffice_init : Value} {odg_CappedOffice_init : Option Addr} {vsg_CappedOffice_init : Array Value} {slg_CappedOffice_init : Array (Option Value)} {fi_CappedOffice_init : Str} {tf_CappedOffice_init : Tok} {cdd_CappedOffice : ClassData} {f_law_one : Addr} {oc_law_one : Value} {od_law_one : Option Addr} {an_law_one : Option Addr} {sl_law_one : Array (Option Value)} {kV_law_one : Value} {dc_law_one : Value} {pm_law_one : Value} {cd_law_one : Value} {ct_law_one : Value} {f_law_made : Addr} {oc_law_made : Value} {od_law_made : Option Addr} {an_law_made : Option Addr} {sl_law_made : Array (Option Value)} {kV_law_made : Value} {dc_law_made : Value} {pm_law_made : Value} {cd_law_made : Value} {ct_law_made : Value} {f_law_amount : Addr} {oc_law_amount : Value} {od_law_amount : Option Addr} {an_law_amount : Option Addr} {sl_law_amount : Array (Option Value)} {kV_law_amount : Value} {dc_law_amount : Value} {pm_law_amount : Value} {cd_law_amount : Value} {ct_law_amount : Value} {f_law_goal : Addr} {oc_law_goal : Value} {od_law_goal : Option Addr} {an_law_goal : Option Addr} {sl_law_goal : Array (Option Value)} {kV_law_goal : Value} {dc_law_goal : Value} {pm_law_goal : Value} {cd_law_goal : Value} {ct_law_goal : Value} {f_law_first : Addr} {oc_law_first : Value} {od_law_first : Option Addr} {an_law_first : Option Addr} {sl_law_first : Array (Option Value)} {kV_law_first : Value} {dc_law_first : Value} {pm_law_first : Value} {cd_law_first : Value} {ct_law_first : Value} {f_law_result : Addr} {oc_law_result : Value} {od_law_result : Option Addr} {an_law_result : Option Addr} {sl_law_result : Array (Option Value)} {kV_law_result : Value} {dc_law_result : Value} {pm_law_result : Value} {cd_law_result : Value} {ct_law_result : Value} {f_law_level : Addr} {oc_law_level : Value} {od_law_level : Option Addr} {an_law_level : Option Addr} {sl_law_level : Array (Option Value)} {kV_law_level : Value} {dc_law_level : Value} {pm_law_level : Value} {cd_law_level : Value} {ct_law_level : Value} {f_law_levels : Addr} {oc_law_levels : Value} {od_law_levels : Option Addr} {an_law_levels : Option Addr} {sl_law_levels : Array (Option Value)} {kV_law_levels : Value} {dc_law_levels : Value} {pm_law_levels : Value} {cd_law_levels : Value} {ct_law_levels : Value} {tg_COINS : Tok} {f_is_amount : Addr} {oc_is_amount : Value} {od_is_amount : Option Addr} {an_is_amount : Option Addr} {sl_is_amount : Array (Option Value)} {kV_is_amount : Value} {dc_is_amount : Value} {pm_is_amount : Value} {cd_is_amount : Value} {ct_is_amount : Value} {f_is_pair : Addr} {oc_is_pair : Value} {od_is_pair : Option Addr} {an_is_pair : Option Addr} {sl_is_pair : Array (Option Value)} {kV_is_pair : Value} {dc_is_pair : Value} {pm_is_pair : Value} {cd_is_pair : Value} {ct_is_pair : Value} {p_Market_currencies : Addr} {pz_Market_currencies : List Value} {f_Market_currencies : Addr} {oc_Market_currencies : Value} {od_Market_currencies : Option Addr} {an_Market_currencies : Option Addr} {sl_Market_currencies : Array (Option Value)} {kV_Market_currencies : Value} {dc_Market_currencies : Value} {pm_Market_currencies : Value} {cd_Market_currencies : Value} {ct_Market_currencies : Value} {f_need_currency : Addr} {oc_need_currency : Value} {od_need_currency : Option Addr} {an_need_currency : Option Addr} {sl_need_currency : Array (Option Value)} {kV_need_currency : Value} {dc_need_currency : Value} {pm_need_currency : Value} {cd_need_currency : Value} {ct_need_currency : Value} {f_need_holding : Addr} {oc_need_holding : Value} {od_need_holding : Option Addr} {an_need_holding : Option Addr} {sl_need_holding : Array (Option Value)} {kV_need_holding : Value} {dc_need_holding : Value} {pm_need_holding : Value} {cd_need_holding : Value} {ct_need_holding : Value} {f_need_amount : Addr} {oc_need_amount : Value} {od_need_amount : Option Addr} {an_need_amount : Option Addr} {sl_need_amount : Array (Option Value)} {kV_need_amount : Value} {dc_need_amount : Value} {pm_need_amount : Value} {cd_need_amount : Value} {ct_need_amount : Value} {tg_FEWEST : Tok} {f_need_goal : Addr} {oc_need_goal : Value} {od_need_goal : Option Addr} {an_need_goal : Option Addr} {sl_need_goal : Array (Option Value)} {kV_need_goal : Value} {dc_need_goal : Value} {pm_need_goal : Value} {cd_need_goal : Value} {ct_need_goal : Value} {tg_NEVER : Tok} {f_first_level : Addr} {oc_first_level : Value} {od_first_level : Option Addr} {an_first_level : Option Addr} {sl_first_level : Array (Option Value)} {kV_first_level : Value} {dc_first_level : Value} {pm_first_level : Value} {cd_first_level : Value} {ct_first_level : Value} {p_Market_offices : Addr} {pz_Market_offices : List Value} {f_Market_offices : Addr} {oc_Market_offices : Value} {od_Market_offices : Option Addr} {an_Market_offices : Option Addr} {sl_Market_offices : Array (Option Value)} {kV_Market_offices : Value} {dc_Market_offices : Value} {pm_Market_offices : Value} {cd_Market_offices : Value} {ct_Market_offices : Value} {f_Office_result : Addr} {oc_Office_result : Value} {od_Office_result : Option Addr} {an_Office_result : Option Addr} {sl_Office_result : Array (Option Value)} {kV_Office_result : Value} {dc_Office_result : Value} {pm_Office_result : Value} {cd_Office_result : Value} {ct_Office_result : Value} {f_CappedOffice_result : Addr} {cc_CappedOffice_result : Addr} {cda_CappedOffice_result : Addr} {oc_CappedOffice_result : Value} {od_CappedOffice_result : Option Addr} {an_CappedOffice_result : Option Addr} {sl_CappedOffice_result : Array (Option Value)} {kV_CappedOffice_result : Value} {dc_CappedOffice_result : Value} {pm_CappedOffice_result : Value} {ct_CappedOffice_result : Value} {oce_CappedOffice_result : Value} {ode_CappedOffice_result : Option Addr} {sle_CappedOffice_result : Array (Option Value)} {ocg_CappedOffice_result : Value} {odg_CappedOffice_result : Option Addr} {vsg_CappedOffice_result : Array Value} {slg_CappedOffice_result : Array (Option Value)} {fi_CappedOffice_result : Str} {tf_CappedOffice_result : Tok} {f_level_after : Addr} {oc_level_after : Value} {od_level_after : Option Addr} {an_level_after : Option Addr} {sl_level_after : Array (Option Value)} {kV_level_after : Value} {dc_level_after : Value} {pm_level_after : Value} {cd_level_after : Value} {ct_level_after : Value} {f_levels_to : Addr} {oc_levels_to : Value} {od_levels_to : Option Addr} {an_levels_to : Option Addr} {sl_levels_to : Array (Option Value)} {kV_levels_to : Value} {dc_levels_to : Value} {pm_levels_to : Value} {cd_levels_to : Value} {ct_levels_to : Value} {f_fewest : Addr} {oc_fewest : Value} {od_fewest : Option Addr} {an_fewest : Option Addr} {sl_fewest : Array (Option Value)} {kV_fewest : Value} {dc_fewest : Value} {pm_fewest : Value} {cd_fewest : Value} {ct_fewest : Value} {f_law : Addr} {oc_law : Value} {od_law : Option Addr} {an_law : Option Addr} {sl_law : Array (Option Value)} {kV_law : Value} {dc_law : Value} {pm_law : Value} {cd_law : Value} {ct_law : Value}
    (a_law_pen : PySem.W.nsIn K mainGlobals "_law_pen" = some (some (.ref f_law_pen)))
    (a_Market : PySem.W.nsIn K mainGlobals "Market" = some (some (.ref C_Market)))
    (a_law_draw : PySem.W.nsIn K mainGlobals "_law_draw" = some (some (.ref f_law_draw)))
    (a_law_pick : PySem.W.nsIn K mainGlobals "_law_pick" = some (some (.ref f_law_pick)))
    (a_law_names : PySem.W.nsIn K mainGlobals "_law_names" = some (some (.ref f_law_names)))
    (a_law_office : PySem.W.nsIn K mainGlobals "_law_office" = some (some (.ref f_law_office)))
    (a_law_ring : PySem.W.nsIn K mainGlobals "_law_ring" = some (some (.ref f_law_ring)))
    (a_law_shuffled : PySem.W.nsIn K mainGlobals "_law_shuffled" = some (some (.ref f_law_shuffled)))
    (a_law_raw : PySem.W.nsIn K mainGlobals "_law_raw" = some (some (.ref f_law_raw)))
    (a_is_list : PySem.W.nsIn K mainGlobals "is_list" = some (some (.ref f_is_list)))
    (a_is_name : PySem.W.nsIn K mainGlobals "is_name" = some (some (.ref f_is_name)))
    (a_need_name : PySem.W.nsIn K mainGlobals "need_name" = some (some (.ref f_need_name)))
    (a_need_currencies : PySem.W.nsIn K mainGlobals "need_currencies" = some (some (.ref f_need_currencies)))
    (a_Office : PySem.W.nsIn K mainGlobals "Office" = some (some (.ref C_Office)))
    (a_CappedOffice : PySem.W.nsIn K mainGlobals "CappedOffice" = some (some (.ref C_CappedOffice)))
    (a_need_ends : PySem.W.nsIn K mainGlobals "need_ends" = some (some (.ref f_need_ends)))
    (a_need_offices : PySem.W.nsIn K mainGlobals "need_offices" = some (some (.ref f_need_offices)))
    (a_is_integer : PySem.W.nsIn K mainGlobals "is_integer" = some (some (.ref f_is_integer)))
    (a_is_rate : PySem.W.nsIn K mainGlobals "is_rate" = some (some (.ref f_is_rate)))
    (a_need_integer : PySem.W.nsIn K mainGlobals "need_integer" = some (some (.ref f_need_integer)))
    (a_law_one : PySem.W.nsIn K mainGlobals "_law_one" = some (some (.ref f_law_one)))
    (a_law_made : PySem.W.nsIn K mainGlobals "_law_made" = some (some (.ref f_law_made)))
    (a_law_amount : PySem.W.nsIn K mainGlobals "_law_amount" = some (some (.ref f_law_amount)))
    (a_law_goal : PySem.W.nsIn K mainGlobals "_law_goal" = some (some (.ref f_law_goal)))
    (a_law_first : PySem.W.nsIn K mainGlobals "_law_first" = some (some (.ref f_law_first)))
    (a_law_result : PySem.W.nsIn K mainGlobals "_law_result" = some (some (.ref f_law_result)))
    (a_law_level : PySem.W.nsIn K mainGlobals "_law_level" = some (some (.ref f_law_level)))
    (a_law_levels : PySem.W.nsIn K mainGlobals "_law_levels" = some (some (.ref f_law_levels)))
    (a_is_amount : PySem.W.nsIn K mainGlobals "is_amount" = some (some (.ref f_is_amount)))
    (a_is_pair : PySem.W.nsIn K mainGlobals "is_pair" = some (some (.ref f_is_pair)))
    (a_need_currency : PySem.W.nsIn K mainGlobals "need_currency" = some (some (.ref f_need_currency)))
    (a_need_holding : PySem.W.nsIn K mainGlobals "need_holding" = some (some (.ref f_need_holding)))
    (a_need_amount : PySem.W.nsIn K mainGlobals "need_amount" = some (some (.ref f_need_amount)))
    (a_need_goal : PySem.W.nsIn K mainGlobals "need_goal" = some (some (.ref f_need_goal)))
    (a_first_level : PySem.W.nsIn K mainGlobals "first_level" = some (some (.ref f_first_level)))
    (a_level_after : PySem.W.nsIn K mainGlobals "level_after" = some (some (.ref f_level_after)))
    (a_levels_to : PySem.W.nsIn K mainGlobals "levels_to" = some (some (.ref f_levels_to)))
    (a_fewest : PySem.W.nsIn K mainGlobals "fewest" = some (some (.ref f_fewest)))
    (a_law : PySem.W.nsIn K mainGlobals "law" = some (some (.ref f_law)))
    (m_Market_len : PySem.W.findIn K (.ref C_Market) "__len__" = some (some (.ref f_Market_len)))
    (m_Market_contains : PySem.W.findIn K (.ref C_Market) "__contains__" = some (some (.ref f_Market_contains)))
    (m_Market_getitem : PySem.W.findIn K (.ref C_Market) "__getitem__" = some (some (.ref f_Market_getitem)))
    (m_CappedOffice_goal : PySem.W.findIn K (.ref C_CappedOffice) "goal" = some (some (.ref p_Office_goal)))
    (m_Office_goal : PySem.W.findIn K (.ref C_Office) "goal" = some (some (.ref p_Office_goal)))
    (m_CappedOffice_source : PySem.W.findIn K (.ref C_CappedOffice) "source" = some (some (.ref p_Office_source)))
    (m_Office_source : PySem.W.findIn K (.ref C_Office) "source" = some (some (.ref p_Office_source)))
    (mi_Market : PySem.W.findIn K (.ref C_Market) "__init__" = some (some (.ref f_Market_init)))
    (mi_Office : PySem.W.findIn K (.ref C_Office) "__init__" = some (some (.ref f_Office_init)))
    (mi_CappedOffice : PySem.W.findIn K (.ref C_CappedOffice) "__init__" = some (some (.ref f_CappedOffice_init)))
    (m_Market_currencies : PySem.W.findIn K (.ref C_Market) "currencies" = some (some (.ref p_Market_currencies)))
    (m_Market_offices : PySem.W.findIn K (.ref C_Market) "offices" = some (some (.ref p_Market_offices)))
    (m_CappedOffice_result : PySem.W.findIn K (.ref C_CappedOffice) "result" = some (some (.ref f_CappedOffice_result)))
    (m_Office_result : PySem.W.findIn K (.ref C_Office) "result" = some (some (.ref f_Office_result)))
    (pr_Office_goal : PySem.W.recIn K p_Office_goal "property" = some (.ref f_Office_goal :: pz_Office_goal))
    (pr_Office_source : PySem.W.recIn K p_Office_source "property" = some (.ref f_Office_source :: pz_Office_source))
    (pr_Market_currencies : PySem.W.recIn K p_Market_currencies "property" = some (.ref f_Market_currencies :: pz_Market_currencies))
    (pr_Market_offices : PySem.W.recIn K p_Market_offices "property" = some (.ref f_Market_offices :: pz_Market_offices))
    (l_law_pen : K.lookup f_law_pen = some ⟨oc_law_pen, od_law_pen, .func (PySem.W.fnOf "_law_pen" "_law_pen" (defArgs s_law_pen) (defBody s_law_pen) (defScope s_law_pen) .none kV_law_pen dc_law_pen pm_law_pen an_law_pen cd_law_pen ct_law_pen), sl_law_pen⟩)
    (l_Market_len : K.lookup f_Market_len = some ⟨oc_Market_len, od_Market_len, .func (PySem.W.fnOf "__len__" "Market.__len__" (defArgs s_Market_len) (defBody s_Market_len) (defScope s_Market_len) .none kV_Market_len dc_Market_len pm_Market_len an_Market_len cd_Market_len ct_Market_len), sl_Market_len⟩)
    (l_law_draw : K.lookup f_law_draw = some ⟨oc_law_draw, od_law_draw, .func (PySem.W.fnOf "_law_draw" "_law_draw" (defArgs s_law_draw) (defBody s_law_draw) (defScope s_law_draw) .none kV_law_draw dc_law_draw pm_law_draw an_law_draw cd_law_draw ct_law_draw), sl_law_draw⟩)
    (l_law_pick : K.lookup f_law_pick = some ⟨oc_law_pick, od_law_pick, .func (PySem.W.fnOf "_law_pick" "_law_pick" (defArgs s_law_pick) (defBody s_law_pick) (defScope s_law_pick) .none kV_law_pick dc_law_pick pm_law_pick an_law_pick cd_law_pick ct_law_pick), sl_law_pick⟩)
    (l_law_names : K.lookup f_law_names = some ⟨oc_law_names, od_law_names, .func (PySem.W.fnOf "_law_names" "_law_names" (defArgs s_law_names) (defBody s_law_names) (defScope s_law_names) .none kV_law_names dc_law_names pm_law_names an_law_names cd_law_names ct_law_names), sl_law_names⟩)
    (l_law_office : K.lookup f_law_office = some ⟨oc_law_office, od_law_office, .func (PySem.W.fnOf "_law_office" "_law_office" (defArgs s_law_office) (defBody s_law_office) (defScope s_law_office) .none kV_law_office dc_law_office pm_law_office an_law_office cd_law_office ct_law_office), sl_law_office⟩)
    (l_Market_contains : K.lookup f_Market_contains = some ⟨oc_Market_contains, od_Market_contains, .func (PySem.W.fnOf "__contains__" "Market.__contains__" (defArgs s_Market_contains) (defBody s_Market_contains) (defScope s_Market_contains) .none kV_Market_contains dc_Market_contains pm_Market_contains an_Market_contains cd_Market_contains ct_Market_contains), sl_Market_contains⟩)
    (l_Market_getitem : K.lookup f_Market_getitem = some ⟨oc_Market_getitem, od_Market_getitem, .func (PySem.W.fnOf "__getitem__" "Market.__getitem__" (defArgs s_Market_getitem) (defBody s_Market_getitem) (defScope s_Market_getitem) .none kV_Market_getitem dc_Market_getitem pm_Market_getitem an_Market_getitem cd_Market_getitem ct_Market_getitem), sl_Market_getitem⟩)
    (l_law_ring : K.lookup f_law_ring = some ⟨oc_law_ring, od_law_ring, .func (PySem.W.fnOf "_law_ring" "_law_ring" (defArgs s_law_ring) (defBody s_law_ring) (defScope s_law_ring) .none kV_law_ring dc_law_ring pm_law_ring an_law_ring cd_law_ring ct_law_ring), sl_law_ring⟩)
    (l_law_shuffled : K.lookup f_law_shuffled = some ⟨oc_law_shuffled, od_law_shuffled, .func (PySem.W.fnOf "_law_shuffled" "_law_shuffled" (defArgs s_law_shuffled) (defBody s_law_shuffled) (defScope s_law_shuffled) .none kV_law_shuffled dc_law_shuffled pm_law_shuffled an_law_shuffled cd_law_shuffled ct_law_shuffled), sl_law_shuffled⟩)
    (l_law_raw : K.lookup f_law_raw = some ⟨oc_law_raw, od_law_raw, .func (PySem.W.fnOf "_law_raw" "_law_raw" (defArgs s_law_raw) (defBody s_law_raw) (defScope s_law_raw) .none kV_law_raw dc_law_raw pm_law_raw an_law_raw cd_law_raw ct_law_raw), sl_law_raw⟩)
    (l_is_list : K.lookup f_is_list = some ⟨oc_is_list, od_is_list, .func (PySem.W.fnOf "is_list" "is_list" (defArgs s_is_list) (defBody s_is_list) (defScope s_is_list) .none kV_is_list dc_is_list pm_is_list an_is_list cd_is_list ct_is_list), sl_is_list⟩)
    (l_is_name : K.lookup f_is_name = some ⟨oc_is_name, od_is_name, .func (PySem.W.fnOf "is_name" "is_name" (defArgs s_is_name) (defBody s_is_name) (defScope s_is_name) .none kV_is_name dc_is_name pm_is_name an_is_name cd_is_name ct_is_name), sl_is_name⟩)
    (l_need_name : K.lookup f_need_name = some ⟨oc_need_name, od_need_name, .func (PySem.W.fnOf "need_name" "need_name" (defArgs s_need_name) (defBody s_need_name) (defScope s_need_name) .none kV_need_name dc_need_name pm_need_name an_need_name cd_need_name ct_need_name), sl_need_name⟩)
    (l_need_currencies : K.lookup f_need_currencies = some ⟨oc_need_currencies, od_need_currencies, .func (PySem.W.fnOf "need_currencies" "need_currencies" (defArgs s_need_currencies) (defBody s_need_currencies) (defScope s_need_currencies) .none kV_need_currencies dc_need_currencies pm_need_currencies an_need_currencies cd_need_currencies ct_need_currencies), sl_need_currencies⟩)
    (l_Office_goal : K.lookup f_Office_goal = some ⟨oc_Office_goal, od_Office_goal, .func (PySem.W.fnOf "goal" "Office.goal" (defArgs s_Office_goal) (defBody s_Office_goal) (defScope s_Office_goal) .none kV_Office_goal dc_Office_goal pm_Office_goal an_Office_goal cd_Office_goal ct_Office_goal), sl_Office_goal⟩)
    (l_Office_source : K.lookup f_Office_source = some ⟨oc_Office_source, od_Office_source, .func (PySem.W.fnOf "source" "Office.source" (defArgs s_Office_source) (defBody s_Office_source) (defScope s_Office_source) .none kV_Office_source dc_Office_source pm_Office_source an_Office_source cd_Office_source ct_Office_source), sl_Office_source⟩)
    (l_need_ends : K.lookup f_need_ends = some ⟨oc_need_ends, od_need_ends, .func (PySem.W.fnOf "need_ends" "need_ends" (defArgs s_need_ends) (defBody s_need_ends) (defScope s_need_ends) .none kV_need_ends dc_need_ends pm_need_ends an_need_ends cd_need_ends ct_need_ends), sl_need_ends⟩)
    (l_need_offices : K.lookup f_need_offices = some ⟨oc_need_offices, od_need_offices, .func (PySem.W.fnOf "need_offices" "need_offices" (defArgs s_need_offices) (defBody s_need_offices) (defScope s_need_offices) .none kV_need_offices dc_need_offices pm_need_offices an_need_offices cd_need_offices ct_need_offices), sl_need_offices⟩)
    (l_Market_init : K.lookup f_Market_init = some ⟨oc_Market_init, od_Market_init, .func (PySem.W.fnOf "__init__" "Market.__init__" (defArgs s_Market_init) (defBody s_Market_init) (defScope s_Market_init) (.ref T_Market_init) kV_Market_init dc_Market_init pm_Market_init an_Market_init cd_Market_init ct_Market_init), sl_Market_init⟩)
    (l_is_integer : K.lookup f_is_integer = some ⟨oc_is_integer, od_is_integer, .func (PySem.W.fnOf "is_integer" "is_integer" (defArgs s_is_integer) (defBody s_is_integer) (defScope s_is_integer) .none kV_is_integer dc_is_integer pm_is_integer an_is_integer cd_is_integer ct_is_integer), sl_is_integer⟩)
    (l_is_rate : K.lookup f_is_rate = some ⟨oc_is_rate, od_is_rate, .func (PySem.W.fnOf "is_rate" "is_rate" (defArgs s_is_rate) (defBody s_is_rate) (defScope s_is_rate) .none kV_is_rate dc_is_rate pm_is_rate an_is_rate cd_is_rate ct_is_rate), sl_is_rate⟩)
    (l_need_integer : K.lookup f_need_integer = some ⟨oc_need_integer, od_need_integer, .func (PySem.W.fnOf "need_integer" "need_integer" (defArgs s_need_integer) (defBody s_need_integer) (defScope s_need_integer) .none kV_need_integer dc_need_integer pm_need_integer an_need_integer cd_need_integer ct_need_integer), sl_need_integer⟩)
    (l_Office_init : K.lookup f_Office_init = some ⟨oc_Office_init, od_Office_init, .func (PySem.W.fnOf "__init__" "Office.__init__" (defArgs s_Office_init) (defBody s_Office_init) (defScope s_Office_init) .none kV_Office_init dc_Office_init pm_Office_init an_Office_init cd_Office_init ct_Office_init), sl_Office_init⟩)
    (l_CappedOffice_init : K.lookup f_CappedOffice_init = some ⟨oc_CappedOffice_init, od_CappedOffice_init, .func (PySem.W.fnX "__init__" "CappedOffice.__init__" (defArgs s_CappedOffice_init) (defBody s_CappedOffice_init) (defScope s_CappedOffice_init) [("__class__", cc_CappedOffice_init)] .none kV_CappedOffice_init dc_CappedOffice_init pm_CappedOffice_init an_CappedOffice_init (.ref cda_CappedOffice_init) ct_CappedOffice_init), sl_CappedOffice_init⟩)
    (l_law_one : K.lookup f_law_one = some ⟨oc_law_one, od_law_one, .func (PySem.W.fnOf "_law_one" "_law_one" (defArgs s_law_one) (defBody s_law_one) (defScope s_law_one) .none kV_law_one dc_law_one pm_law_one an_law_one cd_law_one ct_law_one), sl_law_one⟩)
    (l_law_made : K.lookup f_law_made = some ⟨oc_law_made, od_law_made, .func (PySem.W.fnOf "_law_made" "_law_made" (defArgs s_law_made) (defBody s_law_made) (defScope s_law_made) .none kV_law_made dc_law_made pm_law_made an_law_made cd_law_made ct_law_made), sl_law_made⟩)
    (l_law_amount : K.lookup f_law_amount = some ⟨oc_law_amount, od_law_amount, .func (PySem.W.fnOf "_law_amount" "_law_amount" (defArgs s_law_amount) (defBody s_law_amount) (defScope s_law_amount) .none kV_law_amount dc_law_amount pm_law_amount an_law_amount cd_law_amount ct_law_amount), sl_law_amount⟩)
    (l_law_goal : K.lookup f_law_goal = some ⟨oc_law_goal, od_law_goal, .func (PySem.W.fnOf "_law_goal" "_law_goal" (defArgs s_law_goal) (defBody s_law_goal) (defScope s_law_goal) .none kV_law_goal dc_law_goal pm_law_goal an_law_goal cd_law_goal ct_law_goal), sl_law_goal⟩)
    (l_law_first : K.lookup f_law_first = some ⟨oc_law_first, od_law_first, .func (PySem.W.fnOf "_law_first" "_law_first" (defArgs s_law_first) (defBody s_law_first) (defScope s_law_first) .none kV_law_first dc_law_first pm_law_first an_law_first cd_law_first ct_law_first), sl_law_first⟩)
    (l_law_result : K.lookup f_law_result = some ⟨oc_law_result, od_law_result, .func (PySem.W.fnOf "_law_result" "_law_result" (defArgs s_law_result) (defBody s_law_result) (defScope s_law_result) .none kV_law_result dc_law_result pm_law_result an_law_result cd_law_result ct_law_result), sl_law_result⟩)
    (l_law_level : K.lookup f_law_level = some ⟨oc_law_level, od_law_level, .func (PySem.W.fnOf "_law_level" "_law_level" (defArgs s_law_level) (defBody s_law_level) (defScope s_law_level) .none kV_law_level dc_law_level pm_law_level an_law_level cd_law_level ct_law_level), sl_law_level⟩)
    (l_law_levels : K.lookup f_law_levels = some ⟨oc_law_levels, od_law_levels, .func (PySem.W.fnOf "_law_levels" "_law_levels" (defArgs s_law_levels) (defBody s_law_levels) (defScope s_law_levels) .none kV_law_levels dc_law_levels pm_law_levels an_law_levels cd_law_levels ct_law_levels), sl_law_levels⟩)
    (l_is_amount : K.lookup f_is_amount = some ⟨oc_is_amount, od_is_amount, .func (PySem.W.fnOf "is_amount" "is_amount" (defArgs s_is_amount) (defBody s_is_amount) (defScope s_is_amount) .none kV_is_amount dc_is_amount pm_is_amount an_is_amount cd_is_amount ct_is_amount), sl_is_amount⟩)
    (l_is_pair : K.lookup f_is_pair = some ⟨oc_is_pair, od_is_pair, .func (PySem.W.fnOf "is_pair" "is_pair" (defArgs s_is_pair) (defBody s_is_pair) (defScope s_is_pair) .none kV_is_pair dc_is_pair pm_is_pair an_is_pair cd_is_pair ct_is_pair), sl_is_pair⟩)
    (l_Market_currencies : K.lookup f_Market_currencies = some ⟨oc_Market_currencies, od_Market_currencies, .func (PySem.W.fnOf "currencies" "Market.currencies" (defArgs s_Market_currencies) (defBody s_Market_currencies) (defScope s_Market_currencies) .none kV_Market_currencies dc_Market_currencies pm_Market_currencies an_Market_currencies cd_Market_currencies ct_Market_currencies), sl_Market_currencies⟩)
    (l_need_currency : K.lookup f_need_currency = some ⟨oc_need_currency, od_need_currency, .func (PySem.W.fnOf "need_currency" "need_currency" (defArgs s_need_currency) (defBody s_need_currency) (defScope s_need_currency) .none kV_need_currency dc_need_currency pm_need_currency an_need_currency cd_need_currency ct_need_currency), sl_need_currency⟩)
    (l_need_holding : K.lookup f_need_holding = some ⟨oc_need_holding, od_need_holding, .func (PySem.W.fnOf "need_holding" "need_holding" (defArgs s_need_holding) (defBody s_need_holding) (defScope s_need_holding) .none kV_need_holding dc_need_holding pm_need_holding an_need_holding cd_need_holding ct_need_holding), sl_need_holding⟩)
    (l_need_amount : K.lookup f_need_amount = some ⟨oc_need_amount, od_need_amount, .func (PySem.W.fnOf "need_amount" "need_amount" (defArgs s_need_amount) (defBody s_need_amount) (defScope s_need_amount) .none kV_need_amount dc_need_amount pm_need_amount an_need_amount cd_need_amount ct_need_amount), sl_need_amount⟩)
    (l_need_goal : K.lookup f_need_goal = some ⟨oc_need_goal, od_need_goal, .func (PySem.W.fnOf "need_goal" "need_goal" (defArgs s_need_goal) (defBody s_need_goal) (defScope s_need_goal) .none kV_need_goal dc_need_goal pm_need_goal an_need_goal cd_need_goal ct_need_goal), sl_need_goal⟩)
    (l_first_level : K.lookup f_first_level = some ⟨oc_first_level, od_first_level, .func (PySem.W.fnOf "first_level" "first_level" (defArgs s_first_level) (defBody s_first_level) (defScope s_first_level) .none kV_first_level dc_first_level pm_first_level an_first_level cd_first_level ct_first_level), sl_first_level⟩)
    (l_Market_offices : K.lookup f_Market_offices = some ⟨oc_Market_offices, od_Market_offices, .func (PySem.W.fnOf "offices" "Market.offices" (defArgs s_Market_offices) (defBody s_Market_offices) (defScope s_Market_offices) .none kV_Market_offices dc_Market_offices pm_Market_offices an_Market_offices cd_Market_offices ct_Market_offices), sl_Market_offices⟩)
    (l_Office_result : K.lookup f_Office_result = some ⟨oc_Office_result, od_Office_result, .func (PySem.W.fnOf "result" "Office.result" (defArgs s_Office_result) (defBody s_Office_result) (defScope s_Office_result) .none kV_Office_result dc_Office_result pm_Office_result an_Office_result cd_Office_result ct_Office_result), sl_Office_result⟩)
    (l_CappedOffice_result : K.lookup f_CappedOffice_result = some ⟨oc_CappedOffice_result, od_CappedOffice_result, .func (PySem.W.fnX "result" "CappedOffice.result" (defArgs s_CappedOffice_result) (defBody s_CappedOffice_result) (defScope s_CappedOffice_result) [("__class__", cc_CappedOffice_result)] .none kV_CappedOffice_result dc_CappedOffice_result pm_CappedOffice_result an_CappedOffice_result (.ref cda_CappedOffice_result) ct_CappedOffice_result), sl_CappedOffice_result⟩)
    (l_level_after : K.lookup f_level_after = some ⟨oc_level_after, od_level_after, .func (PySem.W.fnOf "level_after" "level_after" (defArgs s_level_after) (defBody s_level_after) (defScope s_level_after) .none kV_level_after dc_level_after pm_level_after an_level_after cd_level_after ct_level_after), sl_level_after⟩)
    (l_levels_to : K.lookup f_levels_to = some ⟨oc_levels_to, od_levels_to, .func (PySem.W.fnOf "levels_to" "levels_to" (defArgs s_levels_to) (defBody s_levels_to) (defScope s_levels_to) .none kV_levels_to dc_levels_to pm_levels_to an_levels_to cd_levels_to ct_levels_to), sl_levels_to⟩)
    (l_fewest : K.lookup f_fewest = some ⟨oc_fewest, od_fewest, .func (PySem.W.fnOf "fewest" "fewest" (defArgs s_fewest) (defBody s_fewest) (defScope s_fewest) .none kV_fewest dc_fewest pm_fewest an_fewest cd_fewest ct_fewest), sl_fewest⟩)
    (l_law : K.lookup f_law = some ⟨oc_law, od_law, .func (PySem.W.fnOf "law" "law" (defArgs s_law) (defBody s_law) (defScope s_law) .none kV_law dc_law pm_law an_law cd_law ct_law), sl_law⟩)
    (e_CappedOffice_init : K.lookup cc_CappedOffice_init = some ⟨oce_CappedOffice_init, ode_CappedOffice_init, .cell (some (.ref C_CappedOffice)), sle_CappedOffice_init⟩)
    (g_CappedOffice_init : K.lookup cda_CappedOffice_init = some ⟨ocg_CappedOffice_init, odg_CappedOffice_init, .fields vsg_CappedOffice_init, slg_CappedOffice_init⟩)
    (e_CappedOffice_result : K.lookup cc_CappedOffice_result = some ⟨oce_CappedOffice_result, ode_CappedOffice_result, .cell (some (.ref C_CappedOffice)), sle_CappedOffice_result⟩)
    (g_CappedOffice_result : K.lookup cda_CappedOffice_result = some ⟨ocg_CappedOffice_result, odg_CappedOffice_result, .fields vsg_CappedOffice_result, slg_CappedOffice_result⟩)
    (z_list : PySem.W.nsIn K mainGlobals "list" = some none)
    (c_law_pen : PySem.W.codeIn K cd_law_pen "_law_pen" = true)
    (k_law_pen : PySem.W.keepIn K (.ref f_law_pen) = true)
    (cg_Market : PySem.W.plainGet K C_Market Str.empty = true)
    (ch_Market : PySem.W.hasDictIn K C_Market = true)
    (co_Market : PySem.W.plainOver K C_Market = true)
    (cs_Market : PySem.W.findIn K (.ref C_Market) "__setattr__" = some (some (.builtin "object.__setattr__")))
    (na_Market_own_offices : PySem.W.findIn K (.ref C_Market) "own_offices" = some none)
    (z_len : PySem.W.nsIn K mainGlobals "len" = some none)
    (mf_Market_len : PySem.W.isFn K (.ref f_Market_len) = true)
    (c_Market_len : PySem.W.codeIn K cd_Market_len "Market.__len__" = true)
    (k_Market_len : PySem.W.keepIn K (.ref f_Market_len) = true)
    (z_min : PySem.W.nsIn K mainGlobals "min" = some none)
    (z_range : PySem.W.nsIn K mainGlobals "range" = some none)
    (z_int : PySem.W.nsIn K mainGlobals "int" = some none)
    (z_abs : PySem.W.nsIn K mainGlobals "abs" = some none)
    (c_law_draw : PySem.W.codeIn K cd_law_draw "_law_draw" = true)
    (k_law_draw : PySem.W.keepIn K (.ref f_law_draw) = true)
    (c_law_pick : PySem.W.codeIn K cd_law_pick "_law_pick" = true)
    (k_law_pick : PySem.W.keepIn K (.ref f_law_pick) = true)
    (c_law_names : PySem.W.codeIn K cd_law_names "_law_names" = true)
    (k_law_names : PySem.W.keepIn K (.ref f_law_names) = true)
    (c_law_office : PySem.W.codeIn K cd_law_office "_law_office" = true)
    (k_law_office : PySem.W.keepIn K (.ref f_law_office) = true)
    (na_Market_by_name : PySem.W.findIn K (.ref C_Market) "by_name" = some none)
    (z_isinstance : PySem.W.nsIn K mainGlobals "isinstance" = some none)
    (z_str : PySem.W.nsIn K mainGlobals "str" = some none)
    (mf_Market_contains : PySem.W.isFn K (.ref f_Market_contains) = true)
    (c_Market_contains : PySem.W.codeIn K cd_Market_contains "Market.__contains__" = true)
    (k_Market_contains : PySem.W.keepIn K (.ref f_Market_contains) = true)
    (mf_Market_getitem : PySem.W.isFn K (.ref f_Market_getitem) = true)
    (fi_Market_getitem : PySem.W.fnIn K f_Market_getitem = true)
    (c_Market_getitem : PySem.W.codeIn K cd_Market_getitem "Market.__getitem__" = true)
    (k_Market_getitem : PySem.W.keepIn K (.ref f_Market_getitem) = true)
    (c_law_ring : PySem.W.codeIn K cd_law_ring "_law_ring" = true)
    (k_law_ring : PySem.W.keepIn K (.ref f_law_ring) = true)
    (c_law_shuffled : PySem.W.codeIn K cd_law_shuffled "_law_shuffled" = true)
    (k_law_shuffled : PySem.W.keepIn K (.ref f_law_shuffled) = true)
    (z_sorted : PySem.W.nsIn K mainGlobals "sorted" = some none)
    (c_law_raw : PySem.W.codeIn K cd_law_raw "_law_raw" = true)
    (k_law_raw : PySem.W.keepIn K (.ref f_law_raw) = true)
    (na_Market_own_currencies : PySem.W.findIn K (.ref C_Market) "own_currencies" = some none)
    (z_tuple : PySem.W.nsIn K mainGlobals "tuple" = some none)
    (c_is_list : PySem.W.codeIn K cd_is_list "is_list" = true)
    (k_is_list : PySem.W.keepIn K (.ref f_is_list) = true)
    (gs_ALPHABET : PySem.W.nsIn K mainGlobals "ALPHABET" = some (some (.str "abcdefghijklmnopqrstuvwxyz" tg_ALPHABET)))
    (z_all : PySem.W.nsIn K mainGlobals "all" = some none)
    (gi_LETTERS : PySem.W.nsIn K mainGlobals "LETTERS" = some (some (.int 8 tg_LETTERS)))
    (c_is_name : PySem.W.codeIn K cd_is_name "is_name" = true)
    (k_is_name : PySem.W.keepIn K (.ref f_is_name) = true)
    (c_need_name : PySem.W.codeIn K cd_need_name "need_name" = true)
    (k_need_name : PySem.W.keepIn K (.ref f_need_name) = true)
    (z_enumerate : PySem.W.nsIn K mainGlobals "enumerate" = some none)
    (cr_Market : PySem.W.readsIn K C_Market (.type "type") = true)
    (cq_Market : PySem.W.specialIn K (.ref C_Market) "__getattribute__" = some (some (.builtin "type.__getattribute__")))
    (cv_Market_CURRENCIES : PySem.W.findCls K (.ref C_Market) (.type "type") "CURRENCIES" = some (.val (.int 4 tv_Market_CURRENCIES)))
    (c_need_currencies : PySem.W.codeIn K cd_need_currencies "need_currencies" = true)
    (k_need_currencies : PySem.W.keepIn K (.ref f_need_currencies) = true)
    (kb_Office_NoneType : PySem.W.kitOne K (.type "NoneType") (.ref C_Office) = some false)
    (kb_Office_bool : PySem.W.kitOne K (.type "bool") (.ref C_Office) = some false)
    (kb_Office_int : PySem.W.kitOne K (.type "int") (.ref C_Office) = some false)
    (kb_Office_str : PySem.W.kitOne K (.type "str") (.ref C_Office) = some false)
    (kb_Office_tuple : PySem.W.kitOne K (.type "tuple") (.ref C_Office) = some false)
    (kb_Office_list : PySem.W.kitOne K (.type "list") (.ref C_Office) = some false)
    (kb_Office_dict : PySem.W.kitOne K (.type "dict") (.ref C_Office) = some false)
    (ia_Market : PySem.W.findIn K (.ref C_Market) "__class__" = some (some (.builtin "object.__class__")))
    (iz_hn : PySem.W.specialIn K (.builtin "object.__class__") "__get__" = some (some (.builtin "getset_descriptor.__get__")))
    (iz_htk : PySem.W.takesIn K (.builtin "object.__class__") = some true)
    (io_Market : PySem.W.mroIn K C_Market (.type "object") = some true)
    (kt_Market_Market : PySem.W.kitOne K (.ref C_Market) (.ref C_Market) = some true)
    (kt_Market_Office : PySem.W.kitOne K (.ref C_Market) (.ref C_Office) = some false)
    (cg_CappedOffice : PySem.W.plainGet K C_CappedOffice Str.empty = true)
    (ch_CappedOffice : PySem.W.hasDictIn K C_CappedOffice = true)
    (co_CappedOffice : PySem.W.plainOver K C_CappedOffice = true)
    (cs_CappedOffice : PySem.W.findIn K (.ref C_CappedOffice) "__setattr__" = some (some (.builtin "object.__setattr__")))
    (ia_CappedOffice : PySem.W.findIn K (.ref C_CappedOffice) "__class__" = some (some (.builtin "object.__class__")))
    (io_CappedOffice : PySem.W.mroIn K C_CappedOffice (.type "object") = some true)
    (kt_CappedOffice_CappedOffice : PySem.W.kitOne K (.ref C_CappedOffice) (.ref C_CappedOffice) = some true)
    (kt_CappedOffice_Office : PySem.W.kitOne K (.ref C_CappedOffice) (.ref C_Office) = some true)
    (cg_Office : PySem.W.plainGet K C_Office Str.empty = true)
    (ch_Office : PySem.W.hasDictIn K C_Office = true)
    (co_Office : PySem.W.plainOver K C_Office = true)
    (cs_Office : PySem.W.findIn K (.ref C_Office) "__setattr__" = some (some (.builtin "object.__setattr__")))
    (ia_Office : PySem.W.findIn K (.ref C_Office) "__class__" = some (some (.builtin "object.__class__")))
    (io_Office : PySem.W.mroIn K C_Office (.type "object") = some true)
    (kt_Office_Office : PySem.W.kitOne K (.ref C_Office) (.ref C_Office) = some true)
    (na_CappedOffice_own_ends : PySem.W.findIn K (.ref C_CappedOffice) "own_ends" = some none)
    (na_Office_own_ends : PySem.W.findIn K (.ref C_Office) "own_ends" = some none)
    (pg_Office_goal : PySem.W.specialIn K (.ref p_Office_goal) "__get__" = some (some (.builtin "property.__get__")))
    (pt_Office_goal : PySem.W.takesIn K (.ref p_Office_goal) = some true)
    (c_Office_goal : PySem.W.codeIn K cd_Office_goal "Office.goal" = true)
    (k_Office_goal : PySem.W.keepIn K (.ref f_Office_goal) = true)
    (pg_Office_source : PySem.W.specialIn K (.ref p_Office_source) "__get__" = some (some (.builtin "property.__get__")))
    (pt_Office_source : PySem.W.takesIn K (.ref p_Office_source) = some true)
    (c_Office_source : PySem.W.codeIn K cd_Office_source "Office.source" = true)
    (k_Office_source : PySem.W.keepIn K (.ref f_Office_source) = true)
    (c_need_ends : PySem.W.codeIn K cd_need_ends "need_ends" = true)
    (k_need_ends : PySem.W.keepIn K (.ref f_need_ends) = true)
    (na_CappedOffice_name : PySem.W.findIn K (.ref C_CappedOffice) "name" = some none)
    (na_Office_name : PySem.W.findIn K (.ref C_Office) "name" = some none)
    (cv_Market_OFFICES : PySem.W.findCls K (.ref C_Market) (.type "type") "OFFICES" = some (.val (.int 20 tv_Market_OFFICES)))
    (c_need_offices : PySem.W.codeIn K cd_need_offices "need_offices" = true)
    (k_need_offices : PySem.W.keepIn K (.ref f_need_offices) = true)
    (c_Market_init : PySem.W.codeIn K cd_Market_init "Market.__init__" = true)
    (dT_Market_init : K.lookup T_Market_init = some oT_Market_init)
    (dO_Market_init : oT_Market_init.data = .seq its_Market_init mT_Market_init)
    (dZ_Market_init : its_Market_init.size = 1)
    (k_Market_init : PySem.W.keepIn K (.ref f_Market_init) = true)
    (mm_Market : PySem.W.makesIn K C_Market = true)
    (mf_Market_init : PySem.W.isFn K (.ref f_Market_init) = true)
    (mc_Market : PySem.W.keepIn K (.ref C_Market) = true)
    (z_bool : PySem.W.nsIn K mainGlobals "bool" = some none)
    (c_is_integer : PySem.W.codeIn K cd_is_integer "is_integer" = true)
    (k_is_integer : PySem.W.keepIn K (.ref f_is_integer) = true)
    (cr_Office : PySem.W.readsIn K C_Office (.type "type") = true)
    (cq_Office : PySem.W.specialIn K (.ref C_Office) "__getattribute__" = some (some (.builtin "type.__getattribute__")))
    (cv_Office_RATE : PySem.W.findCls K (.ref C_Office) (.type "type") "RATE" = some (.val (.int 9 tv_Office_RATE)))
    (c_is_rate : PySem.W.codeIn K cd_is_rate "is_rate" = true)
    (k_is_rate : PySem.W.keepIn K (.ref f_is_rate) = true)
    (c_need_integer : PySem.W.codeIn K cd_need_integer "need_integer" = true)
    (k_need_integer : PySem.W.keepIn K (.ref f_need_integer) = true)
    (ck_CappedOffice_FEE : PySem.W.findIn K (.ref C_CappedOffice) "FEE" = some (some (.int 20 tk_CappedOffice_FEE)))
    (ck_Office_FEE : PySem.W.findIn K (.ref C_Office) "FEE" = some (some (.int 20 tk_Office_FEE)))
    (ck_CappedOffice_LEAST : PySem.W.findIn K (.ref C_CappedOffice) "LEAST" = some (some (.int 1000 tk_CappedOffice_LEAST)))
    (ck_Office_LEAST : PySem.W.findIn K (.ref C_Office) "LEAST" = some (some (.int 1000 tk_Office_LEAST)))
    (na_CappedOffice_own_rate : PySem.W.findIn K (.ref C_CappedOffice) "own_rate" = some none)
    (na_Office_own_rate : PySem.W.findIn K (.ref C_Office) "own_rate" = some none)
    (na_CappedOffice_own_fee : PySem.W.findIn K (.ref C_CappedOffice) "own_fee" = some none)
    (na_Office_own_fee : PySem.W.findIn K (.ref C_Office) "own_fee" = some none)
    (na_CappedOffice_own_least : PySem.W.findIn K (.ref C_CappedOffice) "own_least" = some none)
    (na_Office_own_least : PySem.W.findIn K (.ref C_Office) "own_least" = some none)
    (c_Office_init : PySem.W.codeIn K cd_Office_init "Office.__init__" = true)
    (k_Office_init : PySem.W.keepIn K (.ref f_Office_init) = true)
    (mm_Office : PySem.W.makesIn K C_Office = true)
    (mf_Office_init : PySem.W.isFn K (.ref f_Office_init) = true)
    (mc_Office : PySem.W.keepIn K (.ref C_Office) = true)
    (sr_CappedOffice_CappedOffice : PySem.W.mroIn K C_CappedOffice (.ref C_CappedOffice) = some true)
    (sa_CappedOffice_CappedOffice_init : PySem.W.ks_superIn K C_CappedOffice C_CappedOffice "__init__" = some (some (.ref f_Office_init)))
    (st_Office_init : PySem.W.typeIn K (.ref f_Office_init) = some (.type "function"))
    (fi_Office_init : PySem.W.fnIn K f_Office_init = true)
    (zo_any : PySem.W.nsIn K cStatics "thirdparty.any" = some none)
    (ck_CappedOffice_MOST : PySem.W.findIn K (.ref C_CappedOffice) "MOST" = some (some (.int 1000000 tk_CappedOffice_MOST)))
    (na_CappedOffice_own_most : PySem.W.findIn K (.ref C_CappedOffice) "own_most" = some none)
    (c_CappedOffice_init : PySem.W.codeIn K (.ref cda_CappedOffice_init) "CappedOffice.__init__" = true)
    (h_CappedOffice_init : vsg_CappedOffice_init[2]? = some (.str fi_CappedOffice_init tf_CappedOffice_init))
    (i_CappedOffice_init : ((l.prog.main.file : Str) == fi_CappedOffice_init) = true)
    (cd_CappedOffice : PySem.W.clsIn K C_CappedOffice = some cdd_CappedOffice)
    (z_super : PySem.W.nsIn K mainGlobals "super" = some none)
    (zt_super : (l.prog.main.scope.names.lookup ("super" : Str)).isSome = false)
    (mm_CappedOffice : PySem.W.makesIn K C_CappedOffice = true)
    (mf_CappedOffice_init : PySem.W.isFn K (.ref f_CappedOffice_init) = true)
    (mc_CappedOffice : PySem.W.keepIn K (.ref C_CappedOffice) = true)
    (c_law_one : PySem.W.codeIn K cd_law_one "_law_one" = true)
    (k_law_one : PySem.W.keepIn K (.ref f_law_one) = true)
    (c_law_made : PySem.W.codeIn K cd_law_made "_law_made" = true)
    (k_law_made : PySem.W.keepIn K (.ref f_law_made) = true)
    (c_law_amount : PySem.W.codeIn K cd_law_amount "_law_amount" = true)
    (k_law_amount : PySem.W.keepIn K (.ref f_law_amount) = true)
    (c_law_goal : PySem.W.codeIn K cd_law_goal "_law_goal" = true)
    (k_law_goal : PySem.W.keepIn K (.ref f_law_goal) = true)
    (z_dict : PySem.W.nsIn K mainGlobals "dict" = some none)
    (c_law_first : PySem.W.codeIn K cd_law_first "_law_first" = true)
    (k_law_first : PySem.W.keepIn K (.ref f_law_first) = true)
    (z_max : PySem.W.nsIn K mainGlobals "max" = some none)
    (c_law_result : PySem.W.codeIn K cd_law_result "_law_result" = true)
    (k_law_result : PySem.W.keepIn K (.ref f_law_result) = true)
    (c_law_level : PySem.W.codeIn K cd_law_level "_law_level" = true)
    (k_law_level : PySem.W.keepIn K (.ref f_law_level) = true)
    (c_law_levels : PySem.W.codeIn K cd_law_levels "_law_levels" = true)
    (k_law_levels : PySem.W.keepIn K (.ref f_law_levels) = true)
    (gi_COINS : PySem.W.nsIn K mainGlobals "COINS" = some (some (.int 1000000000000000000000000000000 tg_COINS)))
    (c_is_amount : PySem.W.codeIn K cd_is_amount "is_amount" = true)
    (k_is_amount : PySem.W.keepIn K (.ref f_is_amount) = true)
    (c_is_pair : PySem.W.codeIn K cd_is_pair "is_pair" = true)
    (k_is_pair : PySem.W.keepIn K (.ref f_is_pair) = true)
    (pg_Market_currencies : PySem.W.specialIn K (.ref p_Market_currencies) "__get__" = some (some (.builtin "property.__get__")))
    (pt_Market_currencies : PySem.W.takesIn K (.ref p_Market_currencies) = some true)
    (c_Market_currencies : PySem.W.codeIn K cd_Market_currencies "Market.currencies" = true)
    (k_Market_currencies : PySem.W.keepIn K (.ref f_Market_currencies) = true)
    (c_need_currency : PySem.W.codeIn K cd_need_currency "need_currency" = true)
    (k_need_currency : PySem.W.keepIn K (.ref f_need_currency) = true)
    (c_need_holding : PySem.W.codeIn K cd_need_holding "need_holding" = true)
    (k_need_holding : PySem.W.keepIn K (.ref f_need_holding) = true)
    (c_need_amount : PySem.W.codeIn K cd_need_amount "need_amount" = true)
    (k_need_amount : PySem.W.keepIn K (.ref f_need_amount) = true)
    (gi_FEWEST : PySem.W.nsIn K mainGlobals "FEWEST" = some (some (.int 1000 tg_FEWEST)))
    (c_need_goal : PySem.W.codeIn K cd_need_goal "need_goal" = true)
    (k_need_goal : PySem.W.keepIn K (.ref f_need_goal) = true)
    (gi_NEVER : PySem.W.nsIn K mainGlobals "NEVER" = some (some (.int (-1) tg_NEVER)))
    (c_first_level : PySem.W.codeIn K cd_first_level "first_level" = true)
    (k_first_level : PySem.W.keepIn K (.ref f_first_level) = true)
    (pg_Market_offices : PySem.W.specialIn K (.ref p_Market_offices) "__get__" = some (some (.builtin "property.__get__")))
    (pt_Market_offices : PySem.W.takesIn K (.ref p_Market_offices) = some true)
    (c_Market_offices : PySem.W.codeIn K cd_Market_offices "Market.offices" = true)
    (k_Market_offices : PySem.W.keepIn K (.ref f_Market_offices) = true)
    (sa_CappedOffice_CappedOffice_result : PySem.W.ks_superIn K C_CappedOffice C_CappedOffice "result" = some (some (.ref f_Office_result)))
    (st_Office_result : PySem.W.typeIn K (.ref f_Office_result) = some (.type "function"))
    (fi_Office_result : PySem.W.fnIn K f_Office_result = true)
    (c_Office_result : PySem.W.codeIn K cd_Office_result "Office.result" = true)
    (k_Office_result : PySem.W.keepIn K (.ref f_Office_result) = true)
    (mf_CappedOffice_result : PySem.W.isFn K (.ref f_CappedOffice_result) = true)
    (k_CappedOffice_result : PySem.W.keepIn K (.ref f_CappedOffice_result) = true)
    (c_CappedOffice_result : PySem.W.codeIn K (.ref cda_CappedOffice_result) "CappedOffice.result" = true)
    (h_CappedOffice_result : vsg_CappedOffice_result[2]? = some (.str fi_CappedOffice_result tf_CappedOffice_result))
    (i_CappedOffice_result : ((l.prog.main.file : Str) == fi_CappedOffice_result) = true)
    (mf_Office_result : PySem.W.isFn K (.ref f_Office_result) = true)
    (c_level_after : PySem.W.codeIn K cd_level_after "level_after" = true)
    (k_level_after : PySem.W.keepIn K (.ref f_level_after) = true)
    (c_levels_to : PySem.W.codeIn K cd_levels_to "levels_to" = true)
    (k_levels_to : PySem.W.keepIn K (.ref f_levels_to) = true)
    (c_fewest : PySem.W.codeIn K cd_fewest "fewest" = true)
    (k_fewest : PySem.W.keepIn K (.ref f_fewest) = true)
    (kw_fewest : Hs.kwdB K [(("most" : Str), ((.int 60) : L2.V))] kV_fewest = true)
    (z_repr : PySem.W.nsIn K mainGlobals "repr" = some none)
    (c_law : PySem.W.codeIn K cd_law "law" = true)
    (k_law : PySem.W.keepIn K (.ref f_law) = true)
    : ∃ fd : FuncData, (∀ (s : Shared) (v : Value), BindsTo s fd ⟨[v], []⟩ [("_law_script", v)]) ∧ ∀ base : Heap, K.In base → base.Ns mainGlobals mg → FnG l.prog w K mg base (L2.CX l.prog w) 10 fa fd ["_law_script"] (spM K 1 m_law) := by
  have e := hfa.symm.trans (PySem.W.mg_of X G a_law)
  cases e
  have y_b_list : mg "list" = none := PySem.W.mg_none_of X G z_list
  have y_fn_law_pen : FnP K mg "_law_pen" s_law_pen ["_law_script"] := ⟨_, _, PySem.W.mg_of X G a_law_pen, (funMk (st := s_law_pen) l_law_pen c_law_pen k_law_pen), binds_of (kbN (ps := ["_law_script"]) (n := 1) (ks := []) fun us ws h1 h2 => match us, h1, ws, h2 with | [_], _, [], _ => rfl) rfl⟩
  have y_fo_own_offices : FldOk K "own_offices" ["Market"] := (fldC a_Market ⟨cg_Market, ch_Market, co_Market, cs_Market⟩ na_Market_own_offices fld0)
  have y_b_len : mg "len" = none := PySem.W.mg_none_of X G z_len
  have y_ln_Market : LenP K "Market" "__len__" "Market.__len__" s_Market_len ["self"] := ⟨_, _, _, a_Market, ⟨m_Market_len, mf_Market_len⟩, (funMk (st := s_Market_len) l_Market_len c_Market_len k_Market_len), (kbN (ps := ["self"]) (n := 1) (ks := []) fun us ws h1 h2 => match us, h1, ws, h2 with | [_], _, [], _ => rfl)⟩
  have y_b_min : mg "min" = none := PySem.W.mg_none_of X G z_min
  have y_b_range : mg "range" = none := PySem.W.mg_none_of X G z_range
  have y_b_int : mg "int" = none := PySem.W.mg_none_of X G z_int
  have y_b_abs : mg "abs" = none := PySem.W.mg_none_of X G z_abs
  have y_fn_law_draw : FnP K mg "_law_draw" s_law_draw ["_law_pen_here", "_law_many"] := ⟨_, _, PySem.W.mg_of X G a_law_draw, (funMk (st := s_law_draw) l_law_draw c_law_draw k_law_draw), binds_of (kbN (ps := ["_law_pen_here", "_law_many"]) (n := 2) (ks := []) fun us ws h1 h2 => match us, h1, ws, h2 with | [_, _], _, [], _ => rfl) rfl⟩
  have y_fn_law_pick : FnP K mg "_law_pick" s_law_pick ["_law_pen_here", "_law_some"] := ⟨_, _, PySem.W.mg_of X G a_law_pick, (funMk (st := s_law_pick) l_law_pick c_law_pick k_law_pick), binds_of (kbN (ps := ["_law_pen_here", "_law_some"]) (n := 2) (ks := []) fun us ws h1 h2 => match us, h1, ws, h2 with | [_, _], _, [], _ => rfl) rfl⟩
  have y_fn_law_names : FnP K mg "_law_names" s_law_names ["_law_pen_here", "_law_many"] := ⟨_, _, PySem.W.mg_of X G a_law_names, (funMk (st := s_law_names) l_law_names c_law_names k_law_names), binds_of (kbN (ps := ["_law_pen_here", "_law_many"]) (n := 2) (ks := []) fun us ws h1 h2 => match us, h1, ws, h2 with | [_, _], _, [], _ => rfl) rfl⟩
  have y_fn_law_office : FnP K mg "_law_office" s_law_office ["_law_pen_here", "_law_label", "_law_ends", "_law_top"] := ⟨_, _, PySem.W.mg_of X G a_law_office, (funMk (st := s_law_office) l_law_office c_law_office k_law_office), binds_of (kbN (ps := ["_law_pen_here", "_law_label", "_law_ends", "_law_top"]) (n := 4) (ks := []) fun us ws h1 h2 => match us, h1, ws, h2 with | [_, _, _, _], _, [], _ => rfl) rfl⟩
  have y_fo_by_name : FldOk K "by_name" ["Market"] := (fldC a_Market ⟨cg_Market, ch_Market, co_Market, cs_Market⟩ na_Market_by_name fld0)
  have y_b_isinstance : mg "isinstance" = none := PySem.W.mg_none_of X G z_isinstance
  have y_b_str : mg "str" = none := PySem.W.mg_none_of X G z_str
  have y_pth_has_Market : HasP K "Market" "__contains__" "Market.__contains__" s_Market_contains ["self", "value"] := ⟨_, _, _, a_Market, ⟨m_Market_contains, mf_Market_contains⟩, (funMk (st := s_Market_contains) l_Market_contains c_Market_contains k_Market_contains), (kbN (ps := ["self", "value"]) (n := 2) (ks := []) fun us ws h1 h2 => match us, h1, ws, h2 with | [_, _], _, [], _ => rfl)⟩
  have y_ptg_get_Market : GetP K "Market" "__getitem__" "Market.__getitem__" s_Market_getitem ["self", "name"] := ⟨_, _, _, a_Market, ⟨m_Market_getitem, mf_Market_getitem, fi_Market_getitem⟩, (funMk (st := s_Market_getitem) l_Market_getitem c_Market_getitem k_Market_getitem), (kbN (ps := ["self", "name"]) (n := 2) (ks := []) fun us ws h1 h2 => match us, h1, ws, h2 with | [_, _], _, [], _ => rfl)⟩
  have y_fn_law_ring : FnP K mg "_law_ring" s_law_ring ["_law_pen_here", "_law_labels", "_law_ends"] := ⟨_, _, PySem.W.mg_of X G a_law_ring, (funMk (st := s_law_ring) l_law_ring c_law_ring k_law_ring), binds_of (kbN (ps := ["_law_pen_here", "_law_labels", "_law_ends"]) (n := 3) (ks := []) fun us ws h1 h2 => match us, h1, ws, h2 with | [_, _, _], _, [], _ => rfl) rfl⟩
  have y_fn_law_shuffled : FnP K mg "_law_shuffled" s_law_shuffled ["_law_pen_here", "_law_some"] := ⟨_, _, PySem.W.mg_of X G a_law_shuffled, (funMk (st := s_law_shuffled) l_law_shuffled c_law_shuffled k_law_shuffled), binds_of (kbN (ps := ["_law_pen_here", "_law_some"]) (n := 2) (ks := []) fun us ws h1 h2 => match us, h1, ws, h2 with | [_, _], _, [], _ => rfl) rfl⟩
  have y_b_sorted : mg "sorted" = none := PySem.W.mg_none_of X G z_sorted
  have y_fn_law_raw : FnP K mg "_law_raw" s_law_raw ["_law_pen_here", "_law_many", "_law_top"] := ⟨_, _, PySem.W.mg_of X G a_law_raw, (funMk (st := s_law_raw) l_law_raw c_law_raw k_law_raw), binds_of (kbN (ps := ["_law_pen_here", "_law_many", "_law_top"]) (n := 3) (ks := []) fun us ws h1 h2 => match us, h1, ws, h2 with | [_, _, _], _, [], _ => rfl) rfl⟩
  have y_fo_own_currencies : FldOk K "own_currencies" ["Market"] := (fldC a_Market ⟨cg_Market, ch_Market, co_Market, cs_Market⟩ na_Market_own_currencies fld0)
  have y_b_tuple : mg "tuple" = none := PySem.W.mg_none_of X G z_tuple
  have y_fn_is_list : FnP K mg "is_list" s_is_list ["value"] := ⟨_, _, PySem.W.mg_of X G a_is_list, (funMk (st := s_is_list) l_is_list c_is_list k_is_list), binds_of (kbN (ps := ["value"]) (n := 1) (ks := []) fun us ws h1 h2 => match us, h1, ws, h2 with | [_], _, [], _ => rfl) rfl⟩
  have y_gs_ALPHABET : StrP mg "ALPHABET" "abcdefghijklmnopqrstuvwxyz" := ⟨_, PySem.W.mg_of X G gs_ALPHABET⟩
  have y_b_all : mg "all" = none := PySem.W.mg_none_of X G z_all
  have y_gi_LETTERS : IntP mg "LETTERS" 8 := ⟨_, PySem.W.mg_of X G gi_LETTERS⟩
  have y_fn_is_name : FnP K mg "is_name" s_is_name ["value"] := ⟨_, _, PySem.W.mg_of X G a_is_name, (funMk (st := s_is_name) l_is_name c_is_name k_is_name), binds_of (kbN (ps := ["value"]) (n := 1) (ks := []) fun us ws h1 h2 => match us, h1, ws, h2 with | [_], _, [], _ => rfl) rfl⟩
  have y_fn_need_name : FnP K mg "need_name" s_need_name ["value"] := ⟨_, _, PySem.W.mg_of X G a_need_name, (funMk (st := s_need_name) l_need_name c_need_name k_need_name), binds_of (kbN (ps := ["value"]) (n := 1) (ks := []) fun us ws h1 h2 => match us, h1, ws, h2 with | [_], _, [], _ => rfl) rfl⟩
  have y_b_enumerate : mg "enumerate" = none := PySem.W.mg_none_of X G z_enumerate
  have y_ca_Market_CURRENCIES : CatP K mg "Market" "CURRENCIES" 4 := ⟨_, _, _, PySem.W.mg_of X G a_Market, ⟨cr_Market, cq_Market⟩, ⟨cv_Market_CURRENCIES, ⟨_, rfl⟩⟩⟩
  have y_fn_need_currencies : FnP K mg "need_currencies" s_need_currencies ["values"] := ⟨_, _, PySem.W.mg_of X G a_need_currencies, (funMk (st := s_need_currencies) l_need_currencies c_need_currencies k_need_currencies), binds_of (kbN (ps := ["values"]) (n := 1) (ks := []) fun us ws h1 h2 => match us, h1, ws, h2 with | [_], _, [], _ => rfl) rfl⟩
  have y_is_Office : ∃ D, mg "Office" = some (.ref D) ∧ IsoTab K D [("Office", true), ("CappedOffice", true), ("Market", false)] := ⟨_, PySem.W.mg_of X G a_Office, (isoC a_Office ⟨⟨cg_Office, ch_Office, co_Office, cs_Office⟩, ia_Office, iz_hn, iz_htk, io_Office, kt_Office_Office⟩ kt_Office_Office (isoC a_CappedOffice ⟨⟨cg_CappedOffice, ch_CappedOffice, co_CappedOffice, cs_CappedOffice⟩, ia_CappedOffice, iz_hn, iz_htk, io_CappedOffice, kt_CappedOffice_CappedOffice⟩ kt_CappedOffice_Office (isoC a_Market ⟨⟨cg_Market, ch_Market, co_Market, cs_Market⟩, ia_Market, iz_hn, iz_htk, io_Market, kt_Market_Market⟩ kt_Market_Office (iso0 ⟨kb_Office_NoneType, kb_Office_bool, kb_Office_int, kb_Office_str, kb_Office_tuple, kb_Office_list, kb_Office_dict⟩))))⟩
  have y_fo_own_ends : FldOk K "own_ends" ["Office", "CappedOffice"] := (fldC a_Office ⟨cg_Office, ch_Office, co_Office, cs_Office⟩ na_Office_own_ends (fldC a_CappedOffice ⟨cg_CappedOffice, ch_CappedOffice, co_CappedOffice, cs_CappedOffice⟩ na_CappedOffice_own_ends fld0))
  have y_pp_CappedOffice_goal : PrpP K "CappedOffice" "goal" "Office.goal" s_Office_goal := ⟨_, _, _, _, a_CappedOffice, ⟨cg_CappedOffice, ch_CappedOffice, co_CappedOffice, cs_CappedOffice⟩, ⟨m_CappedOffice_goal, pg_Office_goal, pt_Office_goal, ⟨_, pr_Office_goal⟩⟩, (funMk (st := s_Office_goal) l_Office_goal c_Office_goal k_Office_goal), (kbN (ps := ["self"]) (n := 1) (ks := []) fun us ws h1 h2 => match us, h1, ws, h2 with | [_], _, [], _ => rfl)⟩
  have y_pp_Office_goal : PrpP K "Office" "goal" "Office.goal" s_Office_goal := ⟨_, _, _, _, a_Office, ⟨cg_Office, ch_Office, co_Office, cs_Office⟩, ⟨m_Office_goal, pg_Office_goal, pt_Office_goal, ⟨_, pr_Office_goal⟩⟩, (funMk (st := s_Office_goal) l_Office_goal c_Office_goal k_Office_goal), (kbN (ps := ["self"]) (n := 1) (ks := []) fun us ws h1 h2 => match us, h1, ws, h2 with | [_], _, [], _ => rfl)⟩
  have y_pp_CappedOffice_source : PrpP K "CappedOffice" "source" "Office.source" s_Office_source := ⟨_, _, _, _, a_CappedOffice, ⟨cg_CappedOffice, ch_CappedOffice, co_CappedOffice, cs_CappedOffice⟩, ⟨m_CappedOffice_source, pg_Office_source, pt_Office_source, ⟨_, pr_Office_source⟩⟩, (funMk (st := s_Office_source) l_Office_source c_Office_source k_Office_source), (kbN (ps := ["self"]) (n := 1) (ks := []) fun us ws h1 h2 => match us, h1, ws, h2 with | [_], _, [], _ => rfl)⟩
  have y_pp_Office_source : PrpP K "Office" "source" "Office.source" s_Office_source := ⟨_, _, _, _, a_Office, ⟨cg_Office, ch_Office, co_Office, cs_Office⟩, ⟨m_Office_source, pg_Office_source, pt_Office_source, ⟨_, pr_Office_source⟩⟩, (funMk (st := s_Office_source) l_Office_source c_Office_source k_Office_source), (kbN (ps := ["self"]) (n := 1) (ks := []) fun us ws h1 h2 => match us, h1, ws, h2 with | [_], _, [], _ => rfl)⟩
  have y_fn_need_ends : FnP K mg "need_ends" s_need_ends ["currencies", "office"] := ⟨_, _, PySem.W.mg_of X G a_need_ends, (funMk (st := s_need_ends) l_need_ends c_need_ends k_need_ends), binds_of (kbN (ps := ["currencies", "office"]) (n := 2) (ks := []) fun us ws h1 h2 => match us, h1, ws, h2 with | [_, _], _, [], _ => rfl) rfl⟩
  have y_fo_name : FldOk K "name" ["Office", "CappedOffice"] := (fldC a_Office ⟨cg_Office, ch_Office, co_Office, cs_Office⟩ na_Office_name (fldC a_CappedOffice ⟨cg_CappedOffice, ch_CappedOffice, co_CappedOffice, cs_CappedOffice⟩ na_CappedOffice_name fld0))
  have y_ca_Market_OFFICES : CatP K mg "Market" "OFFICES" 20 := ⟨_, _, _, PySem.W.mg_of X G a_Market, ⟨cr_Market, cq_Market⟩, ⟨cv_Market_OFFICES, ⟨_, rfl⟩⟩⟩
  have y_fn_need_offices : FnP K mg "need_offices" s_need_offices ["currencies", "values"] := ⟨_, _, PySem.W.mg_of X G a_need_offices, (funMk (st := s_need_offices) l_need_offices c_need_offices k_need_offices), binds_of (kbN (ps := ["currencies", "values"]) (n := 2) (ks := []) fun us ws h1 h2 => match us, h1, ws, h2 with | [_, _], _, [], _ => rfl) rfl⟩
  have y_mk_Market_2 : MkP K mg "Market" "Market.__init__" s_Market_init ["self", "currencies", "offices"] 2 [] := ⟨_, _, _, a_Market, PySem.W.mg_of X G a_Market, ⟨mm_Market, mi_Market, mf_Market_init, mc_Market⟩, (funMk (st := s_Market_init) l_Market_init c_Market_init k_Market_init), (kbD (ps := ["self", "currencies", "offices"]) (n := 3) (ks := []) dT_Market_init dO_Market_init dZ_Market_init fun us ws is h1 h2 h3 => match us, h1, ws, h2, is, h3 with | [_, _, _], _, [], _, [_], _ => ⟨_, rfl, rfl⟩)⟩
  have y_b_bool : mg "bool" = none := PySem.W.mg_none_of X G z_bool
  have y_fk_is_integer_1_least_most : FnKP K mg "is_integer" s_is_integer ["value", "least", "most"] 1 ["least", "most"] := ⟨_, _, PySem.W.mg_of X G a_is_integer, (funMk (st := s_is_integer) l_is_integer c_is_integer k_is_integer), (kbN (ps := ["value", "least", "most"]) (n := 1) (ks := ["least", "most"]) fun us ws h1 h2 => match us, h1, ws, h2 with | [_], _, [_, _], _ => rfl)⟩
  have y_ca_Office_RATE : CatP K mg "Office" "RATE" 9 := ⟨_, _, _, PySem.W.mg_of X G a_Office, ⟨cr_Office, cq_Office⟩, ⟨cv_Office_RATE, ⟨_, rfl⟩⟩⟩
  have y_fn_is_rate : FnP K mg "is_rate" s_is_rate ["value"] := ⟨_, _, PySem.W.mg_of X G a_is_rate, (funMk (st := s_is_rate) l_is_rate c_is_rate k_is_rate), binds_of (kbN (ps := ["value"]) (n := 1) (ks := []) fun us ws h1 h2 => match us, h1, ws, h2 with | [_], _, [], _ => rfl) rfl⟩
  have y_fk_need_integer_1_least_most : FnKP K mg "need_integer" s_need_integer ["value", "least", "most"] 1 ["least", "most"] := ⟨_, _, PySem.W.mg_of X G a_need_integer, (funMk (st := s_need_integer) l_need_integer c_need_integer k_need_integer), (kbN (ps := ["value", "least", "most"]) (n := 1) (ks := ["least", "most"]) fun us ws h1 h2 => match us, h1, ws, h2 with | [_], _, [_, _], _ => rfl)⟩
  have y_co_FEE : ConOk K "FEE" 20 ["Office", "CappedOffice"] := (conC a_Office ⟨cg_Office, ch_Office, co_Office, cs_Office⟩ ⟨ck_Office_FEE, ⟨_, rfl⟩, rfl, by decide⟩ (conC a_CappedOffice ⟨cg_CappedOffice, ch_CappedOffice, co_CappedOffice, cs_CappedOffice⟩ ⟨ck_CappedOffice_FEE, ⟨_, rfl⟩, rfl, by decide⟩ con0))
  have y_co_LEAST : ConOk K "LEAST" 1000 ["Office", "CappedOffice"] := (conC a_Office ⟨cg_Office, ch_Office, co_Office, cs_Office⟩ ⟨ck_Office_LEAST, ⟨_, rfl⟩, rfl, by decide⟩ (conC a_CappedOffice ⟨cg_CappedOffice, ch_CappedOffice, co_CappedOffice, cs_CappedOffice⟩ ⟨ck_CappedOffice_LEAST, ⟨_, rfl⟩, rfl, by decide⟩ con0))
  have y_fo_own_rate : FldOk K "own_rate" ["Office", "CappedOffice"] := (fldC a_Office ⟨cg_Office, ch_Office, co_Office, cs_Office⟩ na_Office_own_rate (fldC a_CappedOffice ⟨cg_CappedOffice, ch_CappedOffice, co_CappedOffice, cs_CappedOffice⟩ na_CappedOffice_own_rate fld0))
  have y_fo_own_fee : FldOk K "own_fee" ["Office", "CappedOffice"] := (fldC a_Office ⟨cg_Office, ch_Office, co_Office, cs_Office⟩ na_Office_own_fee (fldC a_CappedOffice ⟨cg_CappedOffice, ch_CappedOffice, co_CappedOffice, cs_CappedOffice⟩ na_CappedOffice_own_fee fld0))
  have y_fo_own_least : FldOk K "own_least" ["Office", "CappedOffice"] := (fldC a_Office ⟨cg_Office, ch_Office, co_Office, cs_Office⟩ na_Office_own_least (fldC a_CappedOffice ⟨cg_CappedOffice, ch_CappedOffice, co_CappedOffice, cs_CappedOffice⟩ na_CappedOffice_own_least fld0))
  have y_mk_Office_4_fee_least : MkP K mg "Office" "Office.__init__" s_Office_init ["self", "name", "source", "goal", "rate", "fee", "least"] 4 ["fee", "least"] := ⟨_, _, _, a_Office, PySem.W.mg_of X G a_Office, ⟨mm_Office, mi_Office, mf_Office_init, mc_Office⟩, (funMk (st := s_Office_init) l_Office_init c_Office_init k_Office_init), (kbN (ps := ["self", "name", "source", "goal", "rate", "fee", "least"]) (n := 5) (ks := ["fee", "least"]) fun us ws h1 h2 => match us, h1, ws, h2 with | [_, _, _, _, _], _, [_, _], _ => rfl)⟩
  have y_su_CappedOffice_CappedOffice_init_5_fee_least : SupP K "CappedOffice" "CappedOffice" "__init__" "Office.__init__" s_Office_init ["self", "name", "source", "goal", "rate", "fee", "least"] 5 ["fee", "least"] := ⟨_, _, _, _, a_CappedOffice, a_CappedOffice, ⟨sr_CappedOffice_CappedOffice, sa_CappedOffice_CappedOffice_init, st_Office_init, fi_Office_init, zo_any⟩, (funMk (st := s_Office_init) l_Office_init c_Office_init k_Office_init), (kbN (ps := ["self", "name", "source", "goal", "rate", "fee", "least"]) (n := 5) (ks := ["fee", "least"]) fun us ws h1 h2 => match us, h1, ws, h2 with | [_, _, _, _, _], _, [_, _], _ => rfl)⟩
  have y_co_MOST : ConOk K "MOST" 1000000 ["CappedOffice"] := (conC a_CappedOffice ⟨cg_CappedOffice, ch_CappedOffice, co_CappedOffice, cs_CappedOffice⟩ ⟨ck_CappedOffice_MOST, ⟨_, rfl⟩, rfl, by decide⟩ con0)
  have y_fo_own_most : FldOk K "own_most" ["CappedOffice"] := (fldC a_CappedOffice ⟨cg_CappedOffice, ch_CappedOffice, co_CappedOffice, cs_CappedOffice⟩ na_CappedOffice_own_most fld0)
  have y_mk_CappedOffice_4_most_fee_least : MkS l.prog K mg "CappedOffice" "CappedOffice.__init__" "CappedOffice" s_CappedOffice_init ["self", "name", "source", "goal", "rate", "most", "fee", "least"] 4 ["most", "fee", "least"] := ⟨_, _, _, _, _, _, a_CappedOffice, PySem.W.mg_of X G a_CappedOffice, ⟨mm_CappedOffice, mi_CappedOffice, mf_CappedOffice_init, mc_CappedOffice⟩, ⟨⟨_, _, _, _, _, _, _, _, _, rfl, l_CappedOffice_init, c_CappedOffice_init⟩, ⟨_, _, _, _, e_CappedOffice_init⟩⟩, ⟨PySem.W.mg_none_of X G z_super, ⟨_, _, _, _, _, l_CappedOffice_init, rfl, rfl⟩, ⟨_, _, _, _, _, _, g_CappedOffice_init, h_CappedOffice_init, i_CappedOffice_init⟩, zt_super, ⟨_, _, _, e_CappedOffice_init⟩, ⟨_, cd_CappedOffice⟩⟩, a_CappedOffice, (kbX (ps := ["self", "name", "source", "goal", "rate", "most", "fee", "least"]) (n := 5) (ks := ["most", "fee", "least"]) fun us ws h1 h2 => match us, h1, ws, h2 with | [_, _, _, _, _], _, [_, _, _], _ => rfl)⟩
  have y_fn_law_one : FnP K mg "_law_one" s_law_one ["_law_one_here"] := ⟨_, _, PySem.W.mg_of X G a_law_one, (funMk (st := s_law_one) l_law_one c_law_one k_law_one), binds_of (kbN (ps := ["_law_one_here"]) (n := 1) (ks := []) fun us ws h1 h2 => match us, h1, ws, h2 with | [_], _, [], _ => rfl) rfl⟩
  have y_fn_law_made : FnP K mg "_law_made" s_law_made ["_law_raw_here"] := ⟨_, _, PySem.W.mg_of X G a_law_made, (funMk (st := s_law_made) l_law_made c_law_made k_law_made), binds_of (kbN (ps := ["_law_raw_here"]) (n := 1) (ks := []) fun us ws h1 h2 => match us, h1, ws, h2 with | [_], _, [], _ => rfl) rfl⟩
  have y_fn_law_amount : FnP K mg "_law_amount" s_law_amount ["_law_pen_here"] := ⟨_, _, PySem.W.mg_of X G a_law_amount, (funMk (st := s_law_amount) l_law_amount c_law_amount k_law_amount), binds_of (kbN (ps := ["_law_pen_here"]) (n := 1) (ks := []) fun us ws h1 h2 => match us, h1, ws, h2 with | [_], _, [], _ => rfl) rfl⟩
  have y_fn_law_goal : FnP K mg "_law_goal" s_law_goal ["_law_pen_here", "_law_raw_here"] := ⟨_, _, PySem.W.mg_of X G a_law_goal, (funMk (st := s_law_goal) l_law_goal c_law_goal k_law_goal), binds_of (kbN (ps := ["_law_pen_here", "_law_raw_here"]) (n := 2) (ks := []) fun us ws h1 h2 => match us, h1, ws, h2 with | [_, _], _, [], _ => rfl) rfl⟩
  have y_b_dict : mg "dict" = none := PySem.W.mg_none_of X G z_dict
  have y_fn_law_first : FnP K mg "_law_first" s_law_first ["_law_raw_here", "_law_holding"] := ⟨_, _, PySem.W.mg_of X G a_law_first, (funMk (st := s_law_first) l_law_first c_law_first k_law_first), binds_of (kbN (ps := ["_law_raw_here", "_law_holding"]) (n := 2) (ks := []) fun us ws h1 h2 => match us, h1, ws, h2 with | [_, _], _, [], _ => rfl) rfl⟩
  have y_b_max : mg "max" = none := PySem.W.mg_none_of X G z_max
  have y_fn_law_result : FnP K mg "_law_result" s_law_result ["_law_one_here", "_law_coins"] := ⟨_, _, PySem.W.mg_of X G a_law_result, (funMk (st := s_law_result) l_law_result c_law_result k_law_result), binds_of (kbN (ps := ["_law_one_here", "_law_coins"]) (n := 2) (ks := []) fun us ws h1 h2 => match us, h1, ws, h2 with | [_, _], _, [], _ => rfl) rfl⟩
  have y_fn_law_level : FnP K mg "_law_level" s_law_level ["_law_raw_here", "_law_level_here"] := ⟨_, _, PySem.W.mg_of X G a_law_level, (funMk (st := s_law_level) l_law_level c_law_level k_law_level), binds_of (kbN (ps := ["_law_raw_here", "_law_level_here"]) (n := 2) (ks := []) fun us ws h1 h2 => match us, h1, ws, h2 with | [_, _], _, [], _ => rfl) rfl⟩
  have y_fn_law_levels : FnP K mg "_law_levels" s_law_levels ["_law_raw_here", "_law_holding", "_law_goal_here", "_law_coins", "_law_bound"] := ⟨_, _, PySem.W.mg_of X G a_law_levels, (funMk (st := s_law_levels) l_law_levels c_law_levels k_law_levels), binds_of (kbN (ps := ["_law_raw_here", "_law_holding", "_law_goal_here", "_law_coins", "_law_bound"]) (n := 5) (ks := []) fun us ws h1 h2 => match us, h1, ws, h2 with | [_, _, _, _, _], _, [], _ => rfl) rfl⟩
  have y_gi_COINS : IntP mg "COINS" 1000000000000000000000000000000 := ⟨_, PySem.W.mg_of X G gi_COINS⟩
  have y_fn_is_amount : FnP K mg "is_amount" s_is_amount ["value"] := ⟨_, _, PySem.W.mg_of X G a_is_amount, (funMk (st := s_is_amount) l_is_amount c_is_amount k_is_amount), binds_of (kbN (ps := ["value"]) (n := 1) (ks := []) fun us ws h1 h2 => match us, h1, ws, h2 with | [_], _, [], _ => rfl) rfl⟩
  have y_fn_is_pair : FnP K mg "is_pair" s_is_pair ["value"] := ⟨_, _, PySem.W.mg_of X G a_is_pair, (funMk (st := s_is_pair) l_is_pair c_is_pair k_is_pair), binds_of (kbN (ps := ["value"]) (n := 1) (ks := []) fun us ws h1 h2 => match us, h1, ws, h2 with | [_], _, [], _ => rfl) rfl⟩
  have y_pp_Market_currencies : PrpP K "Market" "currencies" "Market.currencies" s_Market_currencies := ⟨_, _, _, _, a_Market, ⟨cg_Market, ch_Market, co_Market, cs_Market⟩, ⟨m_Market_currencies, pg_Market_currencies, pt_Market_currencies, ⟨_, pr_Market_currencies⟩⟩, (funMk (st := s_Market_currencies) l_Market_currencies c_Market_currencies k_Market_currencies), (kbN (ps := ["self"]) (n := 1) (ks := []) fun us ws h1 h2 => match us, h1, ws, h2 with | [_], _, [], _ => rfl)⟩
  have y_fn_need_currency : FnP K mg "need_currency" s_need_currency ["market", "value"] := ⟨_, _, PySem.W.mg_of X G a_need_currency, (funMk (st := s_need_currency) l_need_currency c_need_currency k_need_currency), binds_of (kbN (ps := ["market", "value"]) (n := 2) (ks := []) fun us ws h1 h2 => match us, h1, ws, h2 with | [_, _], _, [], _ => rfl) rfl⟩
  have y_fn_need_holding : FnP K mg "need_holding" s_need_holding ["market", "value"] := ⟨_, _, PySem.W.mg_of X G a_need_holding, (funMk (st := s_need_holding) l_need_holding c_need_holding k_need_holding), binds_of (kbN (ps := ["market", "value"]) (n := 2) (ks := []) fun us ws h1 h2 => match us, h1, ws, h2 with | [_, _], _, [], _ => rfl) rfl⟩
  have y_fn_need_amount : FnP K mg "need_amount" s_need_amount ["value"] := ⟨_, _, PySem.W.mg_of X G a_need_amount, (funMk (st := s_need_amount) l_need_amount c_need_amount k_need_amount), binds_of (kbN (ps := ["value"]) (n := 1) (ks := []) fun us ws h1 h2 => match us, h1, ws, h2 with | [_], _, [], _ => rfl) rfl⟩
  have y_gi_FEWEST : IntP mg "FEWEST" 1000 := ⟨_, PySem.W.mg_of X G gi_FEWEST⟩
  have y_fn_need_goal : FnP K mg "need_goal" s_need_goal ["market", "holding", "currency", "coins", "most"] := ⟨_, _, PySem.W.mg_of X G a_need_goal, (funMk (st := s_need_goal) l_need_goal c_need_goal k_need_goal), binds_of (kbN (ps := ["market", "holding", "currency", "coins", "most"]) (n := 5) (ks := []) fun us ws h1 h2 => match us, h1, ws, h2 with | [_, _, _, _, _], _, [], _ => rfl) rfl⟩
  have y_gi_NEVER : IntP mg "NEVER" (-1) := ⟨_, PySem.W.mg_of X G gi_NEVER⟩
  have y_fn_first_level : FnP K mg "first_level" s_first_level ["market", "start"] := ⟨_, _, PySem.W.mg_of X G a_first_level, (funMk (st := s_first_level) l_first_level c_first_level k_first_level), binds_of (kbN (ps := ["market", "start"]) (n := 2) (ks := []) fun us ws h1 h2 => match us, h1, ws, h2 with | [_, _], _, [], _ => rfl) rfl⟩
  have y_pp_Market_offices : PrpP K "Market" "offices" "Market.offices" s_Market_offices := ⟨_, _, _, _, a_Market, ⟨cg_Market, ch_Market, co_Market, cs_Market⟩, ⟨m_Market_offices, pg_Market_offices, pt_Market_offices, ⟨_, pr_Market_offices⟩⟩, (funMk (st := s_Market_offices) l_Market_offices c_Market_offices k_Market_offices), (kbN (ps := ["self"]) (n := 1) (ks := []) fun us ws h1 h2 => match us, h1, ws, h2 with | [_], _, [], _ => rfl)⟩
  have y_su_CappedOffice_CappedOffice_result_2 : SupP K "CappedOffice" "CappedOffice" "result" "Office.result" s_Office_result ["self", "coins"] 2 [] := ⟨_, _, _, _, a_CappedOffice, a_CappedOffice, ⟨sr_CappedOffice_CappedOffice, sa_CappedOffice_CappedOffice_result, st_Office_result, fi_Office_result, zo_any⟩, (funMk (st := s_Office_result) l_Office_result c_Office_result k_Office_result), (kbN (ps := ["self", "coins"]) (n := 2) (ks := []) fun us ws h1 h2 => match us, h1, ws, h2 with | [_, _], _, [], _ => rfl)⟩
  have y_me_CappedOffice_result_2 : MthS l.prog K mg "CappedOffice" "result" "CappedOffice.result" "CappedOffice" s_CappedOffice_result ["self", "coins"] 2 [] := ⟨_, _, _, _, _, _, a_CappedOffice, ⟨cg_CappedOffice, ch_CappedOffice, co_CappedOffice, cs_CappedOffice⟩, ⟨m_CappedOffice_result, mf_CappedOffice_result, k_CappedOffice_result⟩, ⟨⟨_, _, _, _, _, _, _, _, _, rfl, l_CappedOffice_result, c_CappedOffice_result⟩, ⟨_, _, _, _, e_CappedOffice_result⟩⟩, ⟨PySem.W.mg_none_of X G z_super, ⟨_, _, _, _, _, l_CappedOffice_result, rfl, rfl⟩, ⟨_, _, _, _, _, _, g_CappedOffice_result, h_CappedOffice_result, i_CappedOffice_result⟩, zt_super, ⟨_, _, _, e_CappedOffice_result⟩, ⟨_, cd_CappedOffice⟩⟩, a_CappedOffice, (kbX (ps := ["self", "coins"]) (n := 2) (ks := []) fun us ws h1 h2 => match us, h1, ws, h2 with | [_, _], _, [], _ => rfl)⟩
  have y_me_Office_result_2 : MthP K "Office" "result" "Office.result" s_Office_result ["self", "coins"] 2 [] := ⟨_, _, _, a_Office, ⟨cg_Office, ch_Office, co_Office, cs_Office⟩, ⟨m_Office_result, mf_Office_result, k_Office_result⟩, (funMk (st := s_Office_result) l_Office_result c_Office_result k_Office_result), (kbN (ps := ["self", "coins"]) (n := 2) (ks := []) fun us ws h1 h2 => match us, h1, ws, h2 with | [_, _], _, [], _ => rfl)⟩
  have y_fn_level_after : FnP K mg "level_after" s_level_after ["market", "level"] := ⟨_, _, PySem.W.mg_of X G a_level_after, (funMk (st := s_level_after) l_level_after c_level_after k_level_after), binds_of (kbN (ps := ["market", "level"]) (n := 2) (ks := []) fun us ws h1 h2 => match us, h1, ws, h2 with | [_, _], _, [], _ => rfl) rfl⟩
  have y_fn_levels_to : FnP K mg "levels_to" s_levels_to ["market", "start", "currency", "coins", "most"] := ⟨_, _, PySem.W.mg_of X G a_levels_to, (funMk (st := s_levels_to) l_levels_to c_levels_to k_levels_to), binds_of (kbN (ps := ["market", "start", "currency", "coins", "most"]) (n := 5) (ks := []) fun us ws h1 h2 => match us, h1, ws, h2 with | [_, _, _, _, _], _, [], _ => rfl) rfl⟩
  have y_fd_fewest : FnDP K mg "fewest" s_fewest ["market", "holding", "currency", "coins", "most"] [(("most" : Str), ((.int 60) : L2.V))] := ⟨_, _, PySem.W.mg_of X G a_fewest, (funMk (st := s_fewest) l_fewest c_fewest k_fewest), kbDf (ps := ["market", "holding", "currency", "coins", "most"]) (n := 4) (Hs.kwdB_ok kw_fewest) rfl fun D us ks h1 h2 => match us, h1, ks, h2 with | [_, _, _, _], _, [_], _ => ⟨_, _, _, _, _, _, rfl, rfl, rfl⟩⟩
  have y_b_repr : mg "repr" = none := PySem.W.mg_none_of X G z_repr
  have y_fk_fewest_4_most : FnKP K mg "fewest" s_fewest ["market", "holding", "currency", "coins", "most"] 4 ["most"] := ⟨_, _, PySem.W.mg_of X G a_fewest, (funMk (st := s_fewest) l_fewest c_fewest k_fewest), (kbN (ps := ["market", "holding", "currency", "coins", "most"]) (n := 4) (ks := ["most"]) fun us ws h1 h2 => match us, h1, ws, h2 with | [_, _, _, _], _, [_], _ => rfl)⟩
  have Z : Zt l.prog K mg := ⟨y_b_list, y_fn_law_pen, y_fo_own_offices, y_b_len, y_ln_Market, y_b_min, y_b_range, y_b_int, y_b_abs, y_fn_law_draw, y_fn_law_pick, y_fn_law_names, y_fn_law_office, y_fo_by_name, y_b_isinstance, y_b_str, y_pth_has_Market, y_ptg_get_Market, y_fn_law_ring, y_fn_law_shuffled, y_b_sorted, y_fn_law_raw, y_fo_own_currencies, y_b_tuple, y_fn_is_list, y_gs_ALPHABET, y_b_all, y_gi_LETTERS, y_fn_is_name, y_fn_need_name, y_b_enumerate, y_ca_Market_CURRENCIES, y_fn_need_currencies, y_is_Office, y_fo_own_ends, y_pp_CappedOffice_goal, y_pp_Office_goal, y_pp_CappedOffice_source, y_pp_Office_source, y_fn_need_ends, y_fo_name, y_ca_Market_OFFICES, y_fn_need_offices, y_mk_Market_2, y_b_bool, y_fk_is_integer_1_least_most, y_ca_Office_RATE, y_fn_is_rate, y_fk_need_integer_1_least_most, y_co_FEE, y_co_LEAST, y_fo_own_rate, y_fo_own_fee, y_fo_own_least, y_mk_Office_4_fee_least, y_su_CappedOffice_CappedOffice_init_5_fee_least, y_co_MOST, y_fo_own_most, y_mk_CappedOffice_4_most_fee_least, y_fn_law_one, y_fn_law_made, y_fn_law_amount, y_fn_law_goal, y_b_dict, y_fn_law_first, y_b_max, y_fn_law_result, y_fn_law_level, y_fn_law_levels, y_gi_COINS, y_fn_is_amount, y_fn_is_pair, y_pp_Market_currencies, y_fn_need_currency, y_fn_need_holding, y_fn_need_amount, y_gi_FEWEST, y_fn_need_goal, y_gi_NEVER, y_fn_first_level, y_pp_Market_offices, y_su_CappedOffice_CappedOffice_result_2, y_me_CappedOffice_result_2, y_me_Office_result_2, y_fn_level_after, y_fn_levels_to, y_fd_fewest, y_b_repr, y_fk_fewest_4_most⟩
  exact ⟨_, fun s v => .of_eq rfl, fun base _ _ => pr_law Z _ _ (funMk (st := s_law) l_law c_law k_law)⟩
theorem facts {w : World} {K : PySem.W.Frag} {h : Heap} {mg : Str → Option Value} {fa : Addr} (X : K.In h) (G : h.Ns mainGlobals mg) (hfa : mg "law" = some (.ref fa)) (c : Hs.Says ex fns K) :
    ∃ fd : FuncData, (∀ (s : Shared) (v : Value), BindsTo s fd ⟨[v], []⟩ [("_law_script", v)]) ∧ ∀ base : Heap, K.In base → base.Ns mainGlobals mg → FnG PySem.Challenge.rw_rounddown_k61_fewest_exchanges_by_levels.prog w K mg base (L2.CX PySem.Challenge.rw_rounddown_k61_fewest_exchanges_by_levels.prog w) 10 fa fd ["_law_script"] (spM K 1 m_law) := by
  obtain ⟨_, _, _, _, _, _, _, _, _, l_law, c_law⟩ := Hs.Df.get (c.def_ 0).1 (c.def_ 0).2 rfl rfl
  obtain ⟨_, _, _, _, _, _, _, _, _, l_law_pen, c_law_pen⟩ := Hs.Df.get (c.def_ 1).1 (c.def_ 1).2 rfl rfl
  obtain ⟨_, _, _, _, _, _, _, _, _, l_Market_len, c_Market_len⟩ := Hs.Df.get (c.def_ 2).1 (c.def_ 2).2 rfl rfl
  obtain ⟨_, _, _, _, _, _, _, _, _, l_law_raw, c_law_raw⟩ := Hs.Df.get (c.def_ 3).1 (c.def_ 3).2 rfl rfl
  obtain ⟨_, _, _, _, _, _, _, _, _, l_law_names, c_law_names⟩ := Hs.Df.get (c.def_ 4).1 (c.def_ 4).2 rfl rfl
  obtain ⟨_, _, _, _, _, _, _, _, _, l_law_draw, c_law_draw⟩ := Hs.Df.get (c.def_ 5).1 (c.def_ 5).2 rfl rfl
  obtain ⟨_, _, _, _, _, _, _, _, _, l_law_pick, c_law_pick⟩ := Hs.Df.get (c.def_ 6).1 (c.def_ 6).2 rfl rfl
  obtain ⟨_, _, _, _, _, _, _, _, _, l_law_office, c_law_office⟩ := Hs.Df.get (c.def_ 7).1 (c.def_ 7).2 rfl rfl
  obtain ⟨_, _, _, _, _, _, _, _, _, l_law_ring, c_law_ring⟩ := Hs.Df.get (c.def_ 8).1 (c.def_ 8).2 rfl rfl
  obtain ⟨_, _, _, _, _, _, _, _, _, l_Market_getitem, c_Market_getitem⟩ := Hs.Df.get (c.def_ 9).1 (c.def_ 9).2 rfl rfl
  obtain ⟨_, _, _, _, _, _, _, _, _, l_Market_contains, c_Market_contains⟩ := Hs.Df.get (c.def_ 10).1 (c.def_ 10).2 rfl rfl
  obtain ⟨_, _, _, _, _, _, _, _, _, l_law_shuffled, c_law_shuffled⟩ := Hs.Df.get (c.def_ 11).1 (c.def_ 11).2 rfl rfl
  obtain ⟨_, _, _, _, _, _, _, _, _, l_law_made, c_law_made⟩ := Hs.Df.get (c.def_ 12).1 (c.def_ 12).2 rfl rfl
  obtain ⟨_, _, _, _, _, _, _, _, _, _, _, _, _, l_Market_init, c_Market_init, dT_Market_init, dO_Market_init, dZ_Market_init⟩ := Hs.Df.getD (c.def_ 13).1 (c.def_ 13).2 rfl rfl
  obtain ⟨_, _, _, _, _, _, _, _, _, l_need_currencies, c_need_currencies⟩ := Hs.Df.get (c.def_ 14).1 (c.def_ 14).2 rfl rfl
  obtain ⟨_, _, _, _, _, _, _, _, _, l_is_list, c_is_list⟩ := Hs.Df.get (c.def_ 15).1 (c.def_ 15).2 rfl rfl
  obtain ⟨_, _, _, _, _, _, _, _, _, l_need_name, c_need_name⟩ := Hs.Df.get (c.def_ 16).1 (c.def_ 16).2 rfl rfl
  obtain ⟨_, _, _, _, _, _, _, _, _, l_is_name, c_is_name⟩ := Hs.Df.get (c.def_ 17).1 (c.def_ 17).2 rfl rfl
  obtain ⟨_, _, _, _, _, _, _, _, _, l_need_offices, c_need_offices⟩ := Hs.Df.get (c.def_ 18).1 (c.def_ 18).2 rfl rfl
  obtain ⟨_, _, _, _, _, _, _, _, _, l_need_ends, c_need_ends⟩ := Hs.Df.get (c.def_ 19).1 (c.def_ 19).2 rfl rfl
  obtain ⟨_, _, _, _, _, _, _, _, _, l_Office_goal, c_Office_goal⟩ := Hs.Df.get (c.def_ 20).1 (c.def_ 20).2 rfl rfl
  obtain ⟨_, _, _, _, _, _, _, _, _, l_Office_source, c_Office_source⟩ := Hs.Df.get (c.def_ 21).1 (c.def_ 21).2 rfl rfl
  obtain ⟨_, _, _, _, _, _, _, _, _, l_law_one, c_law_one⟩ := Hs.Df.get (c.def_ 22).1 (c.def_ 22).2 rfl rfl
  obtain ⟨_, _, _, _, _, _, _, _, _, l_Office_init, c_Office_init⟩ := Hs.Df.get (c.def_ 23).1 (c.def_ 23).2 rfl rfl
  obtain ⟨_, _, _, _, _, _, _, _, _, l_is_rate, c_is_rate⟩ := Hs.Df.get (c.def_ 24).1 (c.def_ 24).2 rfl rfl
  obtain ⟨_, _, _, _, _, _, _, _, _, l_is_integer, c_is_integer⟩ := Hs.Df.get (c.def_ 25).1 (c.def_ 25).2 rfl rfl
  obtain ⟨_, _, _, _, _, _, _, _, _, l_need_integer, c_need_integer⟩ := Hs.Df.get (c.def_ 26).1 (c.def_ 26).2 rfl rfl
  obtain ⟨_, _, _, _, _, _, _, cda_CappedOffice_init, _, l_CappedOffice_init, c_CappedOffice_init⟩ := Hs.Df.getX (c.def_ 27).1 (c.def_ 27).2 rfl rfl
  obtain ⟨_, _, _, e_CappedOffice_init⟩ := Hs.cellB_ok (c.fact 0)
  obtain ⟨_, _, _, _, _, _, g_CappedOffice_init, h_CappedOffice_init, i_CappedOffice_init⟩ := Hs.fileB_ok l_CappedOffice_init rfl (c.fact 1)
  obtain ⟨_, _, _, _, _, _, _, _, _, l_law_amount, c_law_amount⟩ := Hs.Df.get (c.def_ 28).1 (c.def_ 28).2 rfl rfl
  obtain ⟨_, _, _, _, _, _, _, _, _, l_law_goal, c_law_goal⟩ := Hs.Df.get (c.def_ 29).1 (c.def_ 29).2 rfl rfl
  obtain ⟨_, _, _, _, _, _, _, _, _, l_law_levels, c_law_levels⟩ := Hs.Df.get (c.def_ 30).1 (c.def_ 30).2 rfl rfl
  obtain ⟨_, _, _, _, _, _, _, _, _, l_law_first, c_law_first⟩ := Hs.Df.get (c.def_ 31).1 (c.def_ 31).2 rfl rfl
  obtain ⟨_, _, _, _, _, _, _, _, _, l_law_level, c_law_level⟩ := Hs.Df.get (c.def_ 32).1 (c.def_ 32).2 rfl rfl
  obtain ⟨_, _, _, _, _, _, _, _, _, l_law_result, c_law_result⟩ := Hs.Df.get (c.def_ 33).1 (c.def_ 33).2 rfl rfl
  obtain ⟨_, _, _, _, _, _, _, _, _, l_fewest, c_fewest⟩ := Hs.Df.get (c.def_ 34).1 (c.def_ 34).2 rfl rfl
  obtain ⟨_, _, _, _, _, _, _, _, _, l_need_goal, c_need_goal⟩ := Hs.Df.get (c.def_ 35).1 (c.def_ 35).2 rfl rfl
  obtain ⟨_, _, _, _, _, _, _, _, _, l_need_holding, c_need_holding⟩ := Hs.Df.get (c.def_ 36).1 (c.def_ 36).2 rfl rfl
  obtain ⟨_, _, _, _, _, _, _, _, _, l_is_pair, c_is_pair⟩ := Hs.Df.get (c.def_ 37).1 (c.def_ 37).2 rfl rfl
  obtain ⟨_, _, _, _, _, _, _, _, _, l_is_amount, c_is_amount⟩ := Hs.Df.get (c.def_ 38).1 (c.def_ 38).2 rfl rfl
  obtain ⟨_, _, _, _, _, _, _, _, _, l_need_currency, c_need_currency⟩ := Hs.Df.get (c.def_ 39).1 (c.def_ 39).2 rfl rfl
  obtain ⟨_, _, _, _, _, _, _, _, _, l_Market_currencies, c_Market_currencies⟩ := Hs.Df.get (c.def_ 40).1 (c.def_ 40).2 rfl rfl
  obtain ⟨_, _, _, _, _, _, _, _, _, l_need_amount, c_need_amount⟩ := Hs.Df.get (c.def_ 41).1 (c.def_ 41).2 rfl rfl
  obtain ⟨_, _, _, _, _, _, _, _, _, l_levels_to, c_levels_to⟩ := Hs.Df.get (c.def_ 42).1 (c.def_ 42).2 rfl rfl
  obtain ⟨_, _, _, _, _, _, _, _, _, l_first_level, c_first_level⟩ := Hs.Df.get (c.def_ 43).1 (c.def_ 43).2 rfl rfl
  obtain ⟨_, _, _, _, _, _, _, _, _, l_level_after, c_level_after⟩ := Hs.Df.get (c.def_ 44).1 (c.def_ 44).2 rfl rfl
  obtain ⟨_, _, _, _, _, _, _, _, _, l_Market_offices, c_Market_offices⟩ := Hs.Df.get (c.def_ 45).1 (c.def_ 45).2 rfl rfl
  obtain ⟨_, _, _, _, _, _, _, _, _, l_Office_result, c_Office_result⟩ := Hs.Df.get (c.def_ 46).1 (c.def_ 46).2 rfl rfl
  obtain ⟨_, _, _, _, _, _, _, cda_CappedOffice_result, _, l_CappedOffice_result, c_CappedOffice_result⟩ := Hs.Df.getX (c.def_ 47).1 (c.def_ 47).2 rfl rfl
  obtain ⟨_, _, _, e_CappedOffice_result⟩ := Hs.cellB_ok (c.fact 2)
  obtain ⟨_, _, _, _, _, _, g_CappedOffice_result, h_CappedOffice_result, i_CappedOffice_result⟩ := Hs.fileB_ok l_CappedOffice_result rfl (c.fact 3)
  obtain ⟨_, pr_Office_goal⟩ := Hs.pf_ok (c.fact 57)
  obtain ⟨_, pr_Office_source⟩ := Hs.pf_ok (c.fact 58)
  obtain ⟨_, pr_Market_currencies⟩ := Hs.pf_ok (c.fact 59)
  obtain ⟨_, pr_Market_offices⟩ := Hs.pf_ok (c.fact 60)
  obtain ⟨_, gs_ALPHABET⟩ := Hs.strO_ok (c.fact 94)
  obtain ⟨_, gi_LETTERS⟩ := Hs.intO_ok (c.fact 96)
  obtain ⟨_, cv_Market_CURRENCIES⟩ := Hs.catO_ok (c.fact 102)
  obtain ⟨_, cv_Market_OFFICES⟩ := Hs.catO_ok (c.fact 143)
  obtain ⟨_, cv_Office_RATE⟩ := Hs.catO_ok (c.fact 153)
  obtain ⟨_, ck_CappedOffice_FEE⟩ := Hs.intO_ok (c.fact 156)
  obtain ⟨_, ck_Office_FEE⟩ := Hs.intO_ok (c.fact 157)
  obtain ⟨_, ck_CappedOffice_LEAST⟩ := Hs.intO_ok (c.fact 158)
  obtain ⟨_, ck_Office_LEAST⟩ := Hs.intO_ok (c.fact 159)
  obtain ⟨_, ck_CappedOffice_MOST⟩ := Hs.intO_ok (c.fact 175)
  obtain ⟨_, cd_CappedOffice⟩ := Option.isSome_iff_exists.mp (c.fact 177)
  have zt_super : (PySem.Challenge.pw_rounddown_k61_fewest_exchanges_by_levels.main.scope.names.lookup ("super" : Str)).isSome = false := rfl
  obtain ⟨_, gi_COINS⟩ := Hs.intO_ok (c.fact 192)
  obtain ⟨_, gi_FEWEST⟩ := Hs.intO_ok (c.fact 201)
  obtain ⟨_, gi_NEVER⟩ := Hs.intO_ok (c.fact 203)
  have kw_fewest := Hs.kwd_of l_fewest (c.fact 218)
  exact all_mk (l := PySem.Challenge.rw_rounddown_k61_fewest_exchanges_by_levels) (w := w) X G hfa (a_law_pen := (of_decide_eq_true (c.fact 4))) (a_Market := (of_decide_eq_true (c.fact 5))) (a_law_draw := (of_decide_eq_true (c.fact 6))) (a_law_pick := (of_decide_eq_true (c.fact 7))) (a_law_names := (of_decide_eq_true (c.fact 8))) (a_law_office := (of_decide_eq_true (c.fact 9))) (a_law_ring := (of_decide_eq_true (c.fact 10))) (a_law_shuffled := (of_decide_eq_true (c.fact 11))) (a_law_raw := (of_decide_eq_true (c.fact 12))) (a_is_list := (of_decide_eq_true (c.fact 13))) (a_is_name := (of_decide_eq_true (c.fact 14))) (a_need_name := (of_decide_eq_true (c.fact 15))) (a_need_currencies := (of_decide_eq_true (c.fact 16))) (a_Office := (of_decide_eq_true (c.fact 17))) (a_CappedOffice := (of_decide_eq_true (c.fact 18))) (a_need_ends := (of_decide_eq_true (c.fact 19))) (a_need_offices := (of_decide_eq_true (c.fact 20))) (a_is_integer := (of_decide_eq_true (c.fact 21))) (a_is_rate := (of_decide_eq_true (c.fact 22))) (a_need_integer := (of_decide_eq_true (c.fact 23))) (a_law_one := (of_decide_eq_true (c.fact 24))) (a_law_made := (of_decide_eq_true (c.fact 25))) (a_law_amount := (of_decide_eq_true (c.fact 26))) (a_law_goal := (of_decide_eq_true (c.fact 27))) (a_law_first := (of_decide_eq_true (c.fact 28))) (a_law_result := (of_decide_eq_true (c.fact 29))) (a_law_level := (of_decide_eq_true (c.fact 30))) (a_law_levels := (of_decide_eq_true (c.fact 31))) (a_is_amount := (of_decide_eq_true (c.fact 32))) (a_is_pair := (of_decide_eq_true (c.fact 33))) (a_need_currency := (of_decide_eq_true (c.fact 34))) (a_need_holding := (of_decide_eq_true (c.fact 35))) (a_need_amount := (of_decide_eq_true (c.fact 36))) (a_need_goal := (of_decide_eq_true (c.fact 37))) (a_first_level := (of_decide_eq_true (c.fact 38))) (a_level_after := (of_decide_eq_true (c.fact 39))) (a_levels_to := (of_decide_eq_true (c.fact 40))) (a_fewest := (of_decide_eq_true (c.fact 41))) (a_law := (of_decide_eq_true (c.fact 42))) (m_Market_len := (of_decide_eq_true (c.fact 43))) (m_Market_contains := (of_decide_eq_true (c.fact 44))) (m_Market_getitem := (of_decide_eq_true (c.fact 45))) (m_CappedOffice_goal := (of_decide_eq_true (c.fact 46))) (m_Office_goal := (of_decide_eq_true (c.fact 47))) (m_CappedOffice_source := (of_decide_eq_true (c.fact 48))) (m_Office_source := (of_decide_eq_true (c.fact 49))) (mi_Market := (of_decide_eq_true (c.fact 50))) (mi_Office := (of_decide_eq_true (c.fact 51))) (mi_CappedOffice := (of_decide_eq_true (c.fact 52))) (m_Market_currencies := (of_decide_eq_true (c.fact 53))) (m_Market_offices := (of_decide_eq_true (c.fact 54))) (m_CappedOffice_result := (of_decide_eq_true (c.fact 55))) (m_Office_result := (of_decide_eq_true (c.fact 56))) (pr_Office_goal := pr_Office_goal) (pr_Office_source := pr_Office_source) (pr_Market_currencies := pr_Market_currencies) (pr_Market_offices := pr_Market_offices) (l_law_pen := l_law_pen) (l_Market_len := l_Market_len) (l_law_draw := l_law_draw) (l_law_pick := l_law_pick) (l_law_names := l_law_names) (l_law_office := l_law_office) (l_Market_contains := l_Market_contains) (l_Market_getitem := l_Market_getitem) (l_law_ring := l_law_ring) (l_law_shuffled := l_law_shuffled) (l_law_raw := l_law_raw) (l_is_list := l_is_list) (l_is_name := l_is_name) (l_need_name := l_need_name) (l_need_currencies := l_need_currencies) (l_Office_goal := l_Office_goal) (l_Office_source := l_Office_source) (l_need_ends := l_need_ends) (l_need_offices := l_need_offices) (l_Market_init := l_Market_init) (l_is_integer := l_is_integer) (l_is_rate := l_is_rate) (l_need_integer := l_need_integer) (l_Office_init := l_Office_init) (l_CappedOffice_init := l_CappedOffice_init) (l_law_one := l_law_one) (l_law_made := l_law_made) (l_law_amount := l_law_amount) (l_law_goal := l_law_goal) (l_law_first := l_law_first) (l_law_result := l_law_result) (l_law_level := l_law_level) (l_law_levels := l_law_levels) (l_is_amount := l_is_amount) (l_is_pair := l_is_pair) (l_Market_currencies := l_Market_currencies) (l_need_currency := l_need_currency) (l_need_holding := l_need_holding) (l_need_amount := l_need_amount) (l_need_goal := l_need_goal) (l_first_level := l_first_level) (l_Market_offices := l_Market_offices) (l_Office_result := l_Office_result) (l_CappedOffice_result := l_CappedOffice_result) (l_level_after := l_level_after) (l_levels_to := l_levels_to) (l_fewest := l_fewest) (l_law := l_law) (e_CappedOffice_init := e_CappedOffice_init) (g_CappedOffice_init := g_CappedOffice_init) (e_CappedOffice_result := e_CappedOffice_result) (g_CappedOffice_result := g_CappedOffice_result) (z_list := (of_decide_eq_true (c.fact 61))) (c_law_pen := c_law_pen) (k_law_pen := (c.fact 62)) (cg_Market := (c.fact 63)) (ch_Market := (c.fact 64)) (co_Market := (c.fact 65)) (cs_Market := (of_decide_eq_true (c.fact 66))) (na_Market_own_offices := (of_decide_eq_true (c.fact 67))) (z_len := (of_decide_eq_true (c.fact 68))) (mf_Market_len := (c.fact 69)) (c_Market_len := c_Market_len) (k_Market_len := (c.fact 70)) (z_min := (of_decide_eq_true (c.fact 71))) (z_range := (of_decide_eq_true (c.fact 72))) (z_int := (of_decide_eq_true (c.fact 73))) (z_abs := (of_decide_eq_true (c.fact 74))) (c_law_draw := c_law_draw) (k_law_draw := (c.fact 75)) (c_law_pick := c_law_pick) (k_law_pick := (c.fact 76)) (c_law_names := c_law_names) (k_law_names := (c.fact 77)) (c_law_office := c_law_office) (k_law_office := (c.fact 78)) (na_Market_by_name := (of_decide_eq_true (c.fact 79))) (z_isinstance := (of_decide_eq_true (c.fact 80))) (z_str := (of_decide_eq_true (c.fact 81))) (mf_Market_contains := (c.fact 82)) (c_Market_contains := c_Market_contains) (k_Market_contains := (c.fact 83)) (mf_Market_getitem := (c.fact 84)) (fi_Market_getitem := (c.fact 85)) (c_Market_getitem := c_Market_getitem) (k_Market_getitem := (c.fact 86)) (c_law_ring := c_law_ring) (k_law_ring := (c.fact 87)) (c_law_shuffled := c_law_shuffled) (k_law_shuffled := (c.fact 88)) (z_sorted := (of_decide_eq_true (c.fact 89))) (c_law_raw := c_law_raw) (k_law_raw := (c.fact 90)) (na_Market_own_currencies := (of_decide_eq_true (c.fact 91))) (z_tuple := (of_decide_eq_true (c.fact 92))) (c_is_list := c_is_list) (k_is_list := (c.fact 93)) (gs_ALPHABET := gs_ALPHABET) (z_all := (of_decide_eq_true (c.fact 95))) (gi_LETTERS := gi_LETTERS) (c_is_name := c_is_name) (k_is_name := (c.fact 97)) (c_need_name := c_need_name) (k_need_name := (c.fact 98)) (z_enumerate := (of_decide_eq_true (c.fact 99))) (cr_Market := (c.fact 100)) (cq_Market := (of_decide_eq_true (c.fact 101))) (cv_Market_CURRENCIES := cv_Market_CURRENCIES) (c_need_currencies := c_need_currencies) (k_need_currencies := (c.fact 103)) (kb_Office_NoneType := (of_decide_eq_true (c.fact 104))) (kb_Office_bool := (of_decide_eq_true (c.fact 105))) (kb_Office_int := (of_decide_eq_true (c.fact 106))) (kb_Office_str := (of_decide_eq_true (c.fact 107))) (kb_Office_tuple := (of_decide_eq_true (c.fact 108))) (kb_Office_list := (of_decide_eq_true (c.fact 109))) (kb_Office_dict := (of_decide_eq_true (c.fact 110))) (ia_Market := (of_decide_eq_true (c.fact 111))) (iz_hn := (of_decide_eq_true (c.fact 112))) (iz_htk := (of_decide_eq_true (c.fact 113))) (io_Market := (of_decide_eq_true (c.fact 114))) (kt_Market_Market := (of_decide_eq_true (c.fact 115))) (kt_Market_Office := (of_decide_eq_true (c.fact 116))) (cg_CappedOffice := (c.fact 117)) (ch_CappedOffice := (c.fact 118)) (co_CappedOffice := (c.fact 119)) (cs_CappedOffice := (of_decide_eq_true (c.fact 120))) (ia_CappedOffice := (of_decide_eq_true (c.fact 121))) (io_CappedOffice := (of_decide_eq_true (c.fact 122))) (kt_CappedOffice_CappedOffice := (of_decide_eq_true (c.fact 123))) (kt_CappedOffice_Office := (of_decide_eq_true (c.fact 124))) (cg_Office := (c.fact 125)) (ch_Office := (c.fact 126)) (co_Office := (c.fact 127)) (cs_Office := (of_decide_eq_true (c.fact 128))) (ia_Office := (of_decide_eq_true (c.fact 129))) (io_Office := (of_decide_eq_true (c.fact 130))) (kt_Office_Office := (of_decide_eq_true (c.fact 131))) (na_CappedOffice_own_ends := (of_decide_eq_true (c.fact 132))) (na_Office_own_ends := (of_decide_eq_true (c.fact 133))) (pg_Office_goal := (of_decide_eq_true (c.fact 134))) (pt_Office_goal := (of_decide_eq_true (c.fact 135))) (c_Office_goal := c_Office_goal) (k_Office_goal := (c.fact 136)) (pg_Office_source := (of_decide_eq_true (c.fact 137))) (pt_Office_source := (of_decide_eq_true (c.fact 138))) (c_Office_source := c_Office_source) (k_Office_source := (c.fact 139)) (c_need_ends := c_need_ends) (k_need_ends := (c.fact 140)) (na_CappedOffice_name := (of_decide_eq_true (c.fact 141))) (na_Office_name := (of_decide_eq_true (c.fact 142))) (cv_Market_OFFICES := cv_Market_OFFICES) (c_need_offices := c_need_offices) (k_need_offices := (c.fact 144)) (c_Market_init := c_Market_init) (dT_Market_init := dT_Market_init) (dO_Market_init := dO_Market_init) (dZ_Market_init := dZ_Market_init) (k_Market_init := (c.fact 145)) (mm_Market := (c.fact 146)) (mf_Market_init := (c.fact 147)) (mc_Market := (c.fact 148)) (z_bool := (of_decide_eq_true (c.fact 149))) (c_is_integer := c_is_integer) (k_is_integer := (c.fact 150)) (cr_Office := (c.fact 151)) (cq_Office := (of_decide_eq_true (c.fact 152))) (cv_Office_RATE := cv_Office_RATE) (c_is_rate := c_is_rate) (k_is_rate := (c.fact 154)) (c_need_integer := c_need_integer) (k_need_integer := (c.fact 155)) (ck_CappedOffice_FEE := ck_CappedOffice_FEE) (ck_Office_FEE := ck_Office_FEE) (ck_CappedOffice_LEAST := ck_CappedOffice_LEAST) (ck_Office_LEAST := ck_Office_LEAST) (na_CappedOffice_own_rate := (of_decide_eq_true (c.fact 160))) (na_Office_own_rate := (of_decide_eq_true (c.fact 161))) (na_CappedOffice_own_fee := (of_decide_eq_true (c.fact 162))) (na_Office_own_fee := (of_decide_eq_true (c.fact 163))) (na_CappedOffice_own_least := (of_decide_eq_true (c.fact 164))) (na_Office_own_least := (of_decide_eq_true (c.fact 165))) (c_Office_init := c_Office_init) (k_Office_init := (c.fact 166)) (mm_Office := (c.fact 167)) (mf_Office_init := (c.fact 168)) (mc_Office := (c.fact 169)) (sr_CappedOffice_CappedOffice := (of_decide_eq_true (c.fact 170))) (sa_CappedOffice_CappedOffice_init := (of_decide_eq_true (c.fact 171))) (st_Office_init := (of_decide_eq_true (c.fact 172))) (fi_Office_init := (c.fact 173)) (zo_any := (of_decide_eq_true (c.fact 174))) (ck_CappedOffice_MOST := ck_CappedOffice_MOST) (na_CappedOffice_own_most := (of_decide_eq_true (c.fact 176))) (c_CappedOffice_init := c_CappedOffice_init) (h_CappedOffice_init := h_CappedOffice_init) (i_CappedOffice_init := i_CappedOffice_init) (cd_CappedOffice := cd_CappedOffice) (z_super := (of_decide_eq_true (c.fact 178))) (zt_super := zt_super) (mm_CappedOffice := (c.fact 179)) (mf_CappedOffice_init := (c.fact 180)) (mc_CappedOffice := (c.fact 181)) (c_law_one := c_law_one) (k_law_one := (c.fact 182)) (c_law_made := c_law_made) (k_law_made := (c.fact 183)) (c_law_amount := c_law_amount) (k_law_amount := (c.fact 184)) (c_law_goal := c_law_goal) (k_law_goal := (c.fact 185)) (z_dict := (of_decide_eq_true (c.fact 186))) (c_law_first := c_law_first) (k_law_first := (c.fact 187)) (z_max := (of_decide_eq_true (c.fact 188))) (c_law_result := c_law_result) (k_law_result := (c.fact 189)) (c_law_level := c_law_level) (k_law_level := (c.fact 190)) (c_law_levels := c_law_levels) (k_law_levels := (c.fact 191)) (gi_COINS := gi_COINS) (c_is_amount := c_is_amount) (k_is_amount := (c.fact 193)) (c_is_pair := c_is_pair) (k_is_pair := (c.fact 194)) (pg_Market_currencies := (of_decide_eq_true (c.fact 195))) (pt_Market_currencies := (of_decide_eq_true (c.fact 196))) (c_Market_currencies := c_Market_currencies) (k_Market_currencies := (c.fact 197)) (c_need_currency := c_need_currency) (k_need_currency := (c.fact 198)) (c_need_holding := c_need_holding) (k_need_holding := (c.fact 199)) (c_need_amount := c_need_amount) (k_need_amount := (c.fact 200)) (gi_FEWEST := gi_FEWEST) (c_need_goal := c_need_goal) (k_need_goal := (c.fact 202)) (gi_NEVER := gi_NEVER) (c_first_level := c_first_level) (k_first_level := (c.fact 204)) (pg_Market_offices := (of_decide_eq_true (c.fact 205))) (pt_Market_offices := (of_decide_eq_true (c.fact 206))) (c_Market_offices := c_Market_offices) (k_Market_offices := (c.fact 207)) (sa_CappedOffice_CappedOffice_result := (of_decide_eq_true (c.fact 208))) (st_Office_result := (of_decide_eq_true (c.fact 209))) (fi_Office_result := (c.fact 210)) (c_Office_result := c_Office_result) (k_Office_result := (c.fact 211)) (mf_CappedOffice_result := (c.fact 212)) (k_CappedOffice_result := (c.fact 213)) (c_CappedOffice_result := c_CappedOffice_result) (h_CappedOffice_result := h_CappedOffice_result) (i_CappedOffice_result := i_CappedOffice_result) (mf_Office_result := (c.fact 214)) (c_level_after := c_level_after) (k_level_after := (c.fact 215)) (c_levels_to := c_levels_to) (k_levels_to := (c.fact 216)) (c_fewest := c_fewest) (k_fewest := (c.fact 217)) (kw_fewest := kw_fewest) (z_repr := (of_decide_eq_true (c.fact 219))) (c_law := c_law) (k_law := (c.fact 220))
end Lw
/-! Pl: plain reasoning about computations: what an answer is like. -/
namespace Dn
open PySem
section
variable {α β : Type} {s : S} {env : Env} {st : List MO} {Q : α → S → Prop} {QB : β → S → Prop} {c : M α} {i j k : Nat} {ca cb cd : M PV} {fa fb : M Fl} {E : PV → S → Prop} {EF : PV → List MO → Prop}
/-- c answers, and Q holds of the answer and the state behind it; or an exception comes, and E holds of it -/
def Okx (E : PV → S → Prop) (c : M α) (s : S) (Q : α → S → Prop) : Prop := match c s with
  | .ok a s' => Q a s'
  | .exc e s' => E e s'
  | .stk => False
/-- c answers -/
abbrev Ok (c : M α) (s : S) (Q : α → S → Prop) : Prop := Okx (fun _ _ => False) c s Q
theorem Okx.two (h : Okx E c s Q) : (∃ a s', c s = .ok a s' ∧ Q a s') ∨ ∃ e s', c s = .exc e s' ∧ E e s' := by
  unfold Okx at h
  cases e : c s with
  | ok a s' => rw [e] at h; exact .inl ⟨a, s', rfl, h⟩
  | exc e' s' => rw [e] at h; exact .inr ⟨e', s', rfl, h⟩
  | stk => rw [e] at h; exact h.elim
theorem Okx.ofx {e : PV} {s' : S} (z : c s = .exc e s') (h : E e s') : Okx E c s Q := by unfold Okx; rw [z]; exact h
theorem Okx.ex (h : Ok c s Q) : ∃ a s', c s = .ok a s' ∧ Q a s' := by
  rcases h.two with h | ⟨_, _, _, h⟩
  · exact h
  · exact h.elim
theorem Okx.of {a : α} {s' : S} (e : c s = .ok a s') (h : Q a s') : Okx E c s Q := by unfold Okx; rw [e]; exact h
theorem Okx.imp {Q' : α → S → Prop} (h : Okx E c s Q) (f : ∀ a s', Q a s' → Q' a s') : Okx E c s Q' := by
  rcases h.two with ⟨a, s', e, q⟩ | ⟨e, s', z, q⟩
  · exact Okx.of e (f a s' q)
  · exact Okx.ofx z q
theorem Okx.impx {E' : PV → S → Prop} {Q' : α → S → Prop} (h : Okx E c s Q) (f : ∀ a s', Q a s' → Q' a s') (g : ∀ e s', E e s' → E' e s') : Okx E' c s Q' := by
  rcases h.two with ⟨a, s', e, q⟩ | ⟨e, s', z, q⟩
  · exact Okx.of e (f a s' q)
  · exact Okx.ofx z (g e s' q)
theorem Ok.up (h : Ok c s Q) : Okx E c s Q := h.impx (fun _ _ q => q) fun _ _ q => q.elim
theorem ok_ret {a : α} : Okx E (ret a) s Q ↔ Q a s := Iff.rfl
theorem ok_bnd {f : α → M β} : Okx E (bnd c f) s QB ↔ Okx E c s (fun a s' => Okx E (f a) s' QB) := by
  unfold Okx bnd
  cases c s <;> exact Iff.rfl
theorem ok_lft {o : Option α} : Okx E (lft o) s Q ↔ ∃ a, o = some a ∧ Q a s := by
  unfold Okx lft
  cases o with
  | none => exact ⟨fun h => h.elim, fun ⟨_, h, _⟩ => nomatch h⟩
  | some a => exact ⟨fun h => ⟨a, rfl, h⟩, fun ⟨_, h, q⟩ => by cases h; exact q⟩
theorem ok_ite {p : Prop} [Decidable p] {c d : M α} : Okx E (if p then c else d) s Q ↔ if p then Okx E c s Q else Okx E d s Q := by
  split <;> exact Iff.rfl
def varK (i : Nat) (env : Env) (st : List MO) (Q : PV → S → Prop) : Option (Option SV) → Prop
  | some (some (.val d)) => Q d ⟨env, st⟩
  | some (some (.own xs)) => Q (.lst xs) ⟨env.set i (some (.val (.lst xs))), st⟩
  | _ => False
theorem ok_var {Q : PV → S → Prop} : Okx E (var i) ⟨env, st⟩ Q ↔ varK i env st Q env[i]? := by
  unfold Okx var varK
  dsimp only
  rcases env[i]? with _ | _ | sv
  · exact Iff.rfl
  · exact Iff.rfl
  · cases sv <;> exact Iff.rfl
theorem varK_val {Q : PV → S → Prop} {d : PV} : varK i env st Q (some (some (.val d))) ↔ Q d ⟨env, st⟩ := Iff.rfl
theorem varK_own {Q : PV → S → Prop} {xs : List PV} : varK i env st Q (some (some (.own xs))) ↔ Q (.lst xs) ⟨env.set i (some (.val (.lst xs))), st⟩ := Iff.rfl
def brwK (s : S) (Q : PV → S → Prop) : Option (Option SV) → Prop
  | some (some sv) => Q sv.pv s
  | _ => False
theorem ok_brw {Q : PV → S → Prop} : Okx E (brw i) ⟨env, st⟩ Q ↔ brwK ⟨env, st⟩ Q env[i]? := by
  unfold Okx brw brwK
  dsimp only
  rcases env[i]? with _ | _ | sv <;> exact Iff.rfl
theorem brwK_some {Q : PV → S → Prop} {sv : SV} : brwK s Q (some (some sv)) ↔ Q sv.pv s := Iff.rfl
theorem pv_val {d : PV} : (SV.val d).pv = d := rfl
theorem pv_own {xs : List PV} : (SV.own xs).pv = .lst xs := rfl
theorem ok_bin {op : PV → PV → M PV} {Q : PV → S → Prop} : Okx E (bin ca cb op) s Q ↔ Okx E ca s (fun a s' => Okx E cb s' (fun b s2 => Okx E (op a b) s2 Q)) := by
  unfold bin
  rw [ok_bnd]
  exact ⟨fun h => h.imp fun a s' q => ok_bnd.mp q, fun h => h.imp fun a s' q => ok_bnd.mpr q⟩
theorem ok_binL {op : PV → PV → M PV} {Q : PV → S → Prop} : Okx E (binL i cb op) s Q ↔ Okx E (chk i) s (fun _ s1 => Okx E cb s1 (fun b s2 => Okx E (brw i) s2 (fun a s3 => Okx E (op a b) s3 Q))) := by
  unfold binL
  rw [ok_bnd]
  exact ⟨fun h => h.imp fun a s' q => (ok_bnd.mp q).imp fun b s2 q => ok_bnd.mp q, fun h => h.imp fun a s' q => ok_bnd.mpr (q.imp fun b s2 q => ok_bnd.mpr q)⟩
def asBK (s : S) (Q : Bool → S → Prop) : PV → Prop
  | .bl b => Q b s
  | _ => False
theorem ok_asB {Q : Bool → S → Prop} : Okx E (asB ca) s Q ↔ Okx E ca s (fun d s' => asBK s' Q d) := by
  unfold asB
  rw [ok_bnd]
  refine ⟨fun h => h.imp fun a s' q => ?_, fun h => h.imp fun a s' q => ?_⟩ <;> cases a <;> exact q
theorem asBK_bl {Q : Bool → S → Prop} {b : Bool} : asBK s Q (.bl b) ↔ Q b s := Iff.rfl
theorem ok_andT {a b : M Bool} {Q : Bool → S → Prop} : Okx E (andT a b) s Q ↔ Okx E a s (fun x s' => if x = true then Okx E b s' Q else Q false s') := by
  unfold andT
  rw [ok_bnd]
  refine ⟨fun h => h.imp fun a s' q => ?_, fun h => h.imp fun a s' q => ?_⟩ <;> cases a <;> exact q
theorem ok_orT {a b : M Bool} {Q : Bool → S → Prop} : Okx E (orT a b) s Q ↔ Okx E a s (fun x s' => if x = true then Q true s' else Okx E b s' Q) := by
  unfold orT
  rw [ok_bnd]
  refine ⟨fun h => h.imp fun a s' q => ?_, fun h => h.imp fun a s' q => ?_⟩ <;> cases a <;> exact q
theorem ok_notT {a : M Bool} {Q : Bool → S → Prop} : Okx E (notT a) s Q ↔ Okx E a s (fun x s' => Q (!x) s') := by
  unfold notT
  rw [ok_bnd]
  exact Iff.rfl
theorem ok_iteT {t : M Bool} {Q : PV → S → Prop} : Okx E (iteT t ca cb) s Q ↔ Okx E t s (fun x s' => if x = true then Okx E ca s' Q else Okx E cb s' Q) := by
  unfold iteT
  rw [ok_bnd]
  refine ⟨fun h => h.imp fun a s' q => ?_, fun h => h.imp fun a s' q => ?_⟩ <;> cases a <;> exact q
def blK (s : S) (Q : Bool → Prop) : PV → Prop
  | .bl b => Q b
  | _ => False
theorem blK_bl {Q : Bool → Prop} {b : Bool} : blK s Q (.bl b) ↔ Q b := Iff.rfl
theorem ok_andV {Q : PV → S → Prop} : Okx E (andV ca cb) s Q ↔ Okx E ca s (fun d s' => blK s' (fun x => if x = true then Okx E cb s' Q else Q (.bl false) s') d) := by
  unfold andV
  rw [ok_bnd]
  refine ⟨fun h => h.imp fun a s' q => ?_, fun h => h.imp fun a s' q => ?_⟩ <;> cases a <;> first | exact q | (rename_i b; cases b <;> exact q)
theorem ok_notV {Q : PV → S → Prop} : Okx E (notV ca) s Q ↔ Okx E ca s (fun d s' => blK s' (fun x => Q (.bl (!x)) s') d) := by
  unfold notV
  rw [ok_bnd]
  refine ⟨fun h => h.imp fun a s' q => ?_, fun h => h.imp fun a s' q => ?_⟩ <;> cases a <;> exact q
/-! ### arguments, displays -/
theorem ok_argN {Q : List PV → S → Prop} : Okx E argN s Q ↔ Q [] s := Iff.rfl
theorem ok_argC {r : M (List PV)} {Q : List PV → S → Prop} : Okx E (argC ca r) s Q ↔ Okx E ca s (fun d s' => Okx E r s' (fun ds s2 => Q (d :: ds) s2)) := by
  unfold argC
  rw [ok_bnd]
  exact ⟨fun h => h.imp fun a s' q => ok_bnd.mp q, fun h => h.imp fun a s' q => ok_bnd.mpr q⟩
theorem ok_fits {r : M (List PV)} {Q : List PV → S → Prop} : Okx E (fits r) s Q ↔ Okx E r s (fun ds s' => ds.length ≤ sizeLine ∧ Q ds s') := by
  unfold fits
  rw [ok_bnd]
  refine ⟨fun h => h.imp fun a s' q => ?_, fun h => h.imp fun a s' q => ?_⟩
  · rw [ok_ite] at q
    split at q
    · exact ⟨by assumption, q⟩
    · exact q.elim
  · rw [ok_ite, if_pos q.1]
    exact q.2
theorem ok_tupM {r : M (List PV)} {Q : PV → S → Prop} : Okx E (tupM r) s Q ↔ Okx E r s (fun ds s' => ds.length ≤ sizeLine ∧ Q (.tup ds) s') := by
  unfold tupM
  rw [ok_bnd, ok_fits]
  exact Iff.rfl
theorem ok_lstM {r : M (List PV)} {Q : PV → S → Prop} : Okx E (lstM r) s Q ↔ Okx E r s (fun ds s' => Q (.lst ds) s') := by
  unfold lstM
  rw [ok_bnd]
  exact Iff.rfl
theorem ok_parN {Q : Option Int → S → Prop} : Okx E parN s Q ↔ Q none s := Iff.rfl
def intK (s : S) (Q : Int → Prop) : PV → Prop
  | .int b => Q b
  | _ => False
theorem intK_int {Q : Int → Prop} {b : Int} : intK s Q (.int b) ↔ Q b := Iff.rfl
theorem ok_parS {Q : Option Int → S → Prop} : Okx E (parS ca) s Q ↔ Okx E ca s (fun d s' => intK s' (fun i => Q (some i) s') d) := by
  unfold parS
  rw [ok_bnd]
  refine ⟨fun h => h.imp fun a s' q => ?_, fun h => h.imp fun a s' q => ?_⟩ <;> cases a <;> exact q
theorem ok_slM {lo hi : M (Option Int)} {Q : PV → S → Prop} : Okx E (slM ca lo hi) s Q ↔ Okx E ca s (fun d s1 => Okx E lo s1 (fun a s2 => Okx E hi s2 (fun b s3 => ∃ x, slP d a b = some x ∧ Q x s3))) := by
  unfold slM
  rw [ok_bnd]
  exact ⟨fun h => h.imp fun a s' q => (ok_bnd.mp q).imp fun b s2 q => (ok_bnd.mp q).imp fun c s3 q => ok_lft.mp q, fun h => h.imp fun a s' q => ok_bnd.mpr (q.imp fun b s2 q => ok_bnd.mpr (q.imp fun c s3 q => ok_lft.mpr q))⟩
def strK (Q : Str → Prop) : PV → Prop
  | .str b => Q b
  | _ => False
theorem strK_str {Q : Str → Prop} {b : Str} : strK Q (.str b) ↔ Q b := Iff.rfl
theorem ok_joinM {Q : PV → S → Prop} : Okx E (joinM ca cb) s Q ↔ Okx E ca s (fun d s' => strK (fun x => Okx E cb s' (fun b s2 => ∃ y, joinP x b = some y ∧ Q y s2)) d) := by
  unfold joinM
  rw [ok_bnd]
  refine ⟨fun h => h.imp fun a s' q => ?_, fun h => h.imp fun a s' q => ?_⟩
  · cases a <;> first | exact q | exact (ok_bnd.mp q).imp fun b s2 q => ok_lft.mp q
  · cases a <;> first | exact q | exact ok_bnd.mpr (Okx.imp q fun b s2 q => ok_lft.mpr q)
theorem ok_itemsM {Q : List PV → S → Prop} : Okx E (itemsM ca) s Q ↔ Okx E ca s (fun d s' => ∃ xs, itemsP d = some xs ∧ Q xs s') := by
  unfold itemsM
  rw [ok_bnd]
  exact ⟨fun h => h.imp fun a s' q => ok_lft.mp q, fun h => h.imp fun a s' q => ok_lft.mpr q⟩
theorem ok_rngM {Q : List PV → S → Prop} : Okx E (rngM ca) s Q ↔ Okx E ca s (fun d s' => ∃ xs, rngP d = some xs ∧ Q xs s') := by
  unfold rngM
  rw [ok_bnd]
  exact ⟨fun h => h.imp fun a s' q => ok_lft.mp q, fun h => h.imp fun a s' q => ok_lft.mpr q⟩
/-! ### statements -/
def seqK (E : PV → S → Prop) (b : M Fl) (s : S) (Q : Fl → S → Prop) : Fl → Prop
  | .nx => Okx E b s Q
  | fl => Q fl s
theorem ok_seqM {Q : Fl → S → Prop} : Okx E (seqM fa fb) s Q ↔ Okx E fa s (fun fl s' => seqK E fb s' Q fl) := by
  unfold Okx seqM
  cases fa s with
  | ok fl s' => cases fl <;> exact Iff.rfl
  | exc => exact Iff.rfl
  | stk => exact Iff.rfl
theorem seqK_nx {Q : Fl → S → Prop} : seqK E fb s Q .nx ↔ Okx E fb s Q := Iff.rfl
theorem seqK_rt {Q : Fl → S → Prop} {d : PV} : seqK E fb s Q (.rt d) ↔ Q (.rt d) s := Iff.rfl
theorem seqK_bk {Q : Fl → S → Prop} : seqK E fb s Q .bk ↔ Q .bk s := Iff.rfl
theorem seqK_ct {Q : Fl → S → Prop} : seqK E fb s Q .ct ↔ Q .ct s := Iff.rfl
theorem ok_ifM {t : M Bool} {Q : Fl → S → Prop} : Okx E (ifM t fa fb) s Q ↔ Okx E t s (fun x s' => if x = true then Okx E fa s' Q else Okx E fb s' Q) := by
  unfold ifM
  rw [ok_bnd]
  refine ⟨fun h => h.imp fun a s' q => ?_, fun h => h.imp fun a s' q => ?_⟩ <;> cases a <;> exact q
theorem ok_retM {Q : Fl → S → Prop} : Okx E (retM ca) s Q ↔ Okx E ca s (fun d s' => Q (.rt d) s') := by unfold retM; rw [ok_bnd]; exact Iff.rfl
theorem ok_dropM {Q : Fl → S → Prop} : Okx E (dropM ca) s Q ↔ Okx E ca s (fun _ s' => Q .nx s') := by unfold dropM; rw [ok_bnd]; exact Iff.rfl
theorem ok_skipM {Q : Fl → S → Prop} : Okx E skipM s Q ↔ Q .nx s := Iff.rfl
theorem ok_asgM {Q : Fl → S → Prop} : Okx E (asgM i ca) s Q ↔ Okx E ca s (fun d s' => Q .nx ⟨s'.env.set i (some (.val d)), s'.sto⟩) := by unfold asgM; rw [ok_bnd]; exact Iff.rfl
theorem ok_asgO {r : M (List PV)} {Q : Fl → S → Prop} : Okx E (asgO i r) s Q ↔ Okx E r s (fun d s' => Q .nx ⟨s'.env.set i (some (.own d)), s'.sto⟩) := by unfold asgO; rw [ok_bnd]; exact Iff.rfl
theorem ok_par2 {Q : Fl → S → Prop} : Okx E (par2 i j ca cb) s Q ↔ Okx E ca s (fun a s1 => Okx E cb s1 (fun b s2 => Q .nx ⟨(s2.env.set i (some (.val a))).set j (some (.val b)), s2.sto⟩)) := by
  unfold par2
  rw [ok_bnd]
  exact ⟨fun h => h.imp fun a s' q => ok_bnd.mp q, fun h => h.imp fun a s' q => ok_bnd.mpr q⟩
theorem ok_par2VO {r : M (List PV)} {Q : Fl → S → Prop} : Okx E (par2VO i j ca r) s Q ↔ Okx E ca s (fun a s1 => Okx E r s1 (fun b s2 => Q .nx ⟨(s2.env.set i (some (.val a))).set j (some (.own b)), s2.sto⟩)) := by
  unfold par2VO
  rw [ok_bnd]
  exact ⟨fun h => h.imp fun a s' q => ok_bnd.mp q, fun h => h.imp fun a s' q => ok_bnd.mpr q⟩
theorem ok_par2OO {r0 r : M (List PV)} {Q : Fl → S → Prop} : Okx E (par2OO i j r0 r) s Q ↔ Okx E r0 s (fun a s1 => Okx E r s1 (fun b s2 => Q .nx ⟨(s2.env.set i (some (.own a))).set j (some (.own b)), s2.sto⟩)) := by
  unfold par2OO
  rw [ok_bnd]
  exact ⟨fun h => h.imp fun a s' q => ok_bnd.mp q, fun h => h.imp fun a s' q => ok_bnd.mpr q⟩
theorem ok_par3 {Q : Fl → S → Prop} : Okx E (par3 i j k ca cb cd) s Q ↔ Okx E ca s (fun a s1 => Okx E cb s1 (fun b s2 => Okx E cd s2 (fun d s3 => Q .nx ⟨((s3.env.set i (some (.val a))).set j (some (.val b))).set k (some (.val d)), s3.sto⟩))) := by
  unfold par3
  rw [ok_bnd]
  exact ⟨fun h => h.imp fun a s' q => (ok_bnd.mp q).imp fun b s2 q => ok_bnd.mp q, fun h => h.imp fun a s' q => ok_bnd.mpr (q.imp fun b s2 q => ok_bnd.mpr q)⟩
/-! ### calls, functions -/
def OkFx (E : PV → List MO → Prop) (r : RR) (Q : PV → List MO → Prop) : Prop := match r with
  | .ok d st => Q d st
  | .exc e st => E e st
  | .stk => False
abbrev OkF (r : RR) (Q : PV → List MO → Prop) : Prop := OkFx (fun _ _ => False) r Q
theorem OkFx.ex {r : RR} {Q : PV → List MO → Prop} (h : OkF r Q) : ∃ d st, r = .ok d st ∧ Q d st := by
  cases r with
  | ok d st => exact ⟨d, st, rfl, h⟩
  | exc => exact h.elim
  | stk => exact h.elim
theorem OkFx.imp {r : RR} {Q Q' : PV → List MO → Prop} (h : OkFx EF r Q) (f : ∀ d st, Q d st → Q' d st) : OkFx EF r Q' := by
  cases r with
  | ok d st => exact f d st h
  | exc => exact h
  | stk => exact h
theorem OkFx.impx {r : RR} {E' Q Q' : PV → List MO → Prop} (h : OkFx EF r Q) (f : ∀ d st, Q d st → Q' d st) (g : ∀ e st, EF e st → E' e st) : OkFx E' r Q' := by
  cases r with
  | ok d st => exact f d st h
  | exc e st => exact g e st h
  | stk => exact h
theorem OkF.up {r : RR} {Q : PV → List MO → Prop} (h : OkF r Q) : OkFx EF r Q := h.impx (fun _ _ q => q) fun _ _ q => q.elim
theorem ok_callM {m : Fn} {n : Nat} {r : M (List PV)} {Q : PV → S → Prop} : Okx E (callM m n r) s Q ↔ Okx E r s (fun ds s' => OkFx (fun e st => E e ⟨s'.env, st⟩) (m n ds s'.sto) (fun d st => Q d ⟨s'.env, st⟩)) := by
  unfold callM
  rw [ok_bnd]
  have key : ∀ (ds : List PV) (s' : S), Okx E (fun s : S => match m n ds s.sto with
      | .ok d st' => Res.ok d { s with sto := st' }
      | .exc e st' => .exc e { s with sto := st' }
      | .stk => .stk) s' Q ↔ OkFx (fun e st => E e ⟨s'.env, st⟩) (m n ds s'.sto) (fun d st => Q d ⟨s'.env, st⟩) := fun ds s' => by
    unfold Okx OkFx
    dsimp only
    cases m n ds s'.sto <;> exact Iff.rfl
  exact ⟨fun h => h.imp fun ds s' q => (key ds s').mp q, fun h => h.imp fun ds s' q => (key ds s').mpr q⟩
def rtK (Q : PV → List MO → Prop) (s : S) : Fl → Prop
  | .rt d => Q d s.sto
  | .nx => Q .non s.sto
  | _ => False
theorem rtK_rt {Q : PV → List MO → Prop} {d : PV} : rtK Q s (.rt d) ↔ Q d s.sto := Iff.rfl
theorem rtK_nx {Q : PV → List MO → Prop} : rtK Q s .nx ↔ Q .non s.sto := Iff.rfl
theorem okF_fn {np nn n : Nat} {body : Nat → M Fl} {ds : List PV} {st : List MO} {Q : PV → List MO → Prop} (hl : ds.length = np)
    (h : Okx (fun e s => EF e s.sto) (body n) ⟨ds.map (fun d => some (SV.val d)) ++ List.replicate (nn - np) none, st⟩ (fun fl s => rtK Q s fl)) : OkFx EF (fnM np nn body n ds st) Q := by
  unfold fnM
  rw [if_pos hl]
  rcases h.two with ⟨fl, s', e, q⟩ | ⟨e, s', z, q⟩
  · rw [e]
    cases fl <;> exact q
  · rw [z]
    exact q
/-! ### handles -/
def getK (s : S) (Q : PV → S → Prop) : Option PV → Prop
  | some d => Q d s
  | none => False
theorem getK_some {Q : PV → S → Prop} {d : PV} : getK s Q (some d) ↔ Q d s := Iff.rfl
theorem ok_hget0 {key : Str} {kvs : List (L2.Key × PV)} {Q : PV → S → Prop} : Okx E (hgetP (.hnd 0) (.str key)) ⟨env, .dic kvs :: st⟩ Q ↔ getK ⟨env, .dic kvs :: st⟩ Q (valP kvs (.inr key)) := by
  unfold Okx hgetP getK
  simp only [List.getElem?_cons_zero]
  cases valP kvs (.inr key) <;> exact Iff.rfl
def putK (v : PV) (Q : Fl → S → Prop) (s : S) (a b : PV) : Prop := match a, b with
  | .hnd n, .str k => match s.sto[n]? with
    | some (.dic kvs) => kvs.length < sizeLine ∧ Q .nx ⟨s.env, s.sto.set n (.dic (putP kvs (.inr k) v))⟩
    | _ => False
  | _, _ => False
theorem ok_hputM {cd ck cv : M PV} {Q : Fl → S → Prop} : Okx E (hputM cd ck cv) s Q ↔ Okx E cv s (fun v s1 => Okx E cd s1 (fun a s2 => Okx E ck s2 (fun b s3 => putK v Q s3 a b))) := by
  unfold hputM
  rw [ok_bnd]
  have key : ∀ (v a b : PV) (s : S), Okx E (fun s : S => match a, b with
      | .hnd n, .str k => match s.sto[n]? with
        | some (.dic kvs) => if kvs.length < sizeLine then Res.ok Fl.nx { s with sto := s.sto.set n (.dic (putP kvs (.inr k) v)) } else .stk
        | _ => .stk
      | _, _ => .stk) s Q ↔ putK v Q s a b := fun v a b s => by
    unfold Okx putK
    dsimp only
    cases a <;> cases b <;> try exact Iff.rfl
    rename_i n x
    dsimp only
    cases s.sto[n]? with
    | none => exact Iff.rfl
    | some mo =>
      cases mo with
      | dic kvs =>
        dsimp only
        by_cases h : kvs.length < sizeLine
        · simp [h]
        · simp [h]
      | ins => exact Iff.rfl
      | own => exact Iff.rfl
      | dtt => exact Iff.rfl
      | gone => exact Iff.rfl
  exact ⟨fun h => h.imp fun v s1 q => (ok_bnd.mp q).imp fun a s2 q => (ok_bnd.mp q).imp fun b s3 q => (key v a b s3).mp q,
    fun h => h.imp fun v s1 q => ok_bnd.mpr (q.imp fun a s2 q => ok_bnd.mpr (q.imp fun b s3 q => (key v a b s3).mpr q))⟩
theorem putK0 {key : Str} {v : PV} {kvs : List (L2.Key × PV)} {Q : Fl → S → Prop} : putK v Q ⟨env, .dic kvs :: st⟩ (.hnd 0) (.str key) ↔ kvs.length < sizeLine ∧ Q .nx ⟨env, .dic (putP kvs (.inr key) v) :: st⟩ := Iff.rfl
/-! ### loops -/
def flK (Q : Fl → S → Prop) (N : S → Prop) (s : S) : Fl → Prop
  | .nx => N s
  | .ct => N s
  | .bk => Q .nx s
  | .rt d => Q (.rt d) s
theorem ok_for {body : M Fl} {xs : List PV} {Q : Fl → S → Prop} (I : Nat → S → Prop) (h0 : I 0 s) (hs : ∀ (k : Nat) (x : PV) (s : S), xs[k]? = some x → I k s → Okx E body ⟨s.env.set i (some (.val x)), s.sto⟩ (fun fl s' => flK Q (I (k + 1)) s' fl)) (hd : ∀ s, I xs.length s → Q .nx s) : Okx E (forM i body xs) s Q := by
  have key : ∀ (ys : List PV) (k : Nat) (s : S), xs.drop k = ys → k + ys.length = xs.length → I k s → Okx E (forM i body ys) s Q := by
    intro ys
    induction ys with
    | nil =>
      intro k s e hl hI
      have hk : k = xs.length := by simpa using hl
      subst hk
      exact hd s hI
    | cons y ys ih =>
      intro k s e hl hI
      have hk : k < xs.length := by simp at hl; omega
      have e' := List.drop_eq_getElem_cons hk
      rw [e] at e'
      obtain ⟨e1, e2⟩ := List.cons.inj e'
      have hg : xs[k]? = some y := by rw [e1]; exact List.getElem?_eq_getElem hk
      have hb := hs k y s hg hI
      rcases hb.two with ⟨fl, s', eb, q⟩ | ⟨z, s', eb, q⟩
      case' inr =>
        have eb : body { s with env := s.env.set i (some (.val y)) } = .exc z s' := eb
        unfold Okx forM
        simp only [eb]
        exact q
      unfold Okx forM
      have eb : body { s with env := s.env.set i (some (.val y)) } = .ok fl s' := eb
      cases fl with
      | nx => simp only [eb]; exact ih (k + 1) s' e2.symm (by simp at hl; omega) q
      | ct => simp only [eb]; exact ih (k + 1) s' e2.symm (by simp at hl; omega) q
      | bk => simp only [eb]; exact q
      | rt d => simp only [eb]; exact q
  exact key xs 0 s rfl (by simp) h0
theorem ok_loopM {r : M (List PV)} {Q : Fl → S → Prop} : Okx E (loopM r i fa) s Q ↔ Okx E r s (fun xs s' => Okx E (forM i fa xs) s' Q) := by unfold loopM; exact ok_bnd
/-- a while, by a measure -/
theorem ok_while {t : M Bool} {body : M Fl} {Q : Fl → S → Prop} (I : Nat → S → Prop) {n m : Nat} (h0 : I m s) (hmn : m < n)
    (hs : ∀ (m : Nat) (s : S), I m s → Okx E t s (fun x s' => if x = true then Okx E body s' (fun fl s2 => flK Q (fun s3 => ∃ m', m' < m ∧ I m' s3) s2 fl) else Q .nx s')) : Okx E (whM t body n) s Q := by
  induction n generalizing m s with
  | zero => omega
  | succ n ih =>
    unfold whM
    rw [ok_bnd]
    refine (hs m s h0).imp fun x s1 q => ?_
    cases x with
    | false => exact q
    | true =>
      simp only [if_true] at q ⊢
      rcases Okx.two q with ⟨fl, s2, eb, q⟩ | ⟨z, s2, eb, q⟩
      case' inr =>
        unfold Okx
        simp only [eb]
        exact q
      unfold Okx
      cases fl with
      | nx =>
        simp only [eb]
        obtain ⟨m', hm', hI⟩ := q
        exact ih hI (by omega)
      | ct =>
        simp only [eb]
        obtain ⟨m', hm', hI⟩ := q
        exact ih hI (by omega)
      | bk => simp only [eb]; exact q
      | rt d => simp only [eb]; exact q
/-! ### comprehensions -/
theorem ok_lcM {r : M (List PV)} {vs : List Nat} {cond : M Bool} {Q : List PV → S → Prop} : Okx E (lcM r i vs cond ca) s Q ↔ Okx E r s (fun xs s' => Okx E (lcGo i vs cond ca xs []) ⟨wip s'.env vs, s'.sto⟩ Q) := by unfold lcM; exact ok_bnd
/-- by an invariant over the turn, what is made, the state -/
theorem ok_lcGo {vs : List Nat} {cond : M Bool} {elt : M PV} {xs : List PV} {Q : List PV → S → Prop} (I : Nat → List PV → S → Prop) (h0 : I 0 [] s)
    (hs : ∀ (k : Nat) (x : PV) (acc : List PV) (s : S), xs[k]? = some x → I k acc s → Ok cond ⟨s.env.set i (some (.val x)), s.sto⟩ (fun b s1 => if b = true then Ok elt s1 (fun y s2 => acc.length < sizeLine ∧ I (k + 1) (acc ++ [y]) ⟨wip s2.env vs, s2.sto⟩) else I (k + 1) acc ⟨wip s1.env vs, s1.sto⟩))
    (hd : ∀ acc s, I xs.length acc s → Q acc s) : Okx E (lcGo i vs cond elt xs []) s Q := by
  have key : ∀ (ys : List PV) (k : Nat) (acc : List PV) (s : S), xs.drop k = ys → k + ys.length = xs.length → I k acc s → Okx E (lcGo i vs cond elt ys acc) s Q := by
    intro ys
    induction ys with
    | nil =>
      intro k acc s e hl hI
      have hk : k = xs.length := by simpa using hl
      subst hk
      exact hd acc s hI
    | cons y ys ih =>
      intro k acc s e hl hI
      have hk : k < xs.length := by simp at hl; omega
      have e' := List.drop_eq_getElem_cons hk
      rw [e] at e'
      obtain ⟨e1, e2⟩ := List.cons.inj e'
      have hg : xs[k]? = some y := by rw [e1]; exact List.getElem?_eq_getElem hk
      obtain ⟨b, s1, ec, q⟩ := (hs k y acc s hg hI).ex
      have ec : cond { s with env := s.env.set i (some (.val y)) } = .ok b s1 := ec
      unfold Okx lcGo
      cases b with
      | false =>
        simp only [ec]
        exact ih (k + 1) acc _ e2.symm (by simp at hl; omega) q
      | true =>
        simp only [if_true] at q
        obtain ⟨z, s2, ee, q1, q2⟩ := Okx.ex q
        simp only [ec, ee, q1, if_true]
        exact ih (k + 1) (acc ++ [z]) _ e2.symm (by simp at hl; omega) q2
  exact key xs 0 [] s rfl (by simp) h0
end
end Dn
/-! Pl2: the operators' answers, a pen. -/
namespace Dn
open PySem
section
variable {s : S} {Q : PV → S → Prop} {QL : List PV → S → Prop} {a b : Int} {x y : Str} {xs ys : List PV} {E : PV → S → Prop}
theorem cmul_of (ha : a.natAbs < 2 ^ 200) (hb : b.natAbs < 2 ^ 200) : L2.CMulW a b := L2.wide_mul ha hb (by decide) (by decide) (by decide)
theorem cmul100 (ha : -1267650600228229401496703205376 ≤ a ∧ a ≤ 1267650600228229401496703205376) (hb : -1267650600228229401496703205376 ≤ b ∧ b ≤ 1267650600228229401496703205376) : L2.CMulW a b :=
  cmul_of (Nat.lt_of_le_of_lt (show a.natAbs ≤ 1267650600228229401496703205376 by omega) (by decide)) (Nat.lt_of_le_of_lt (show b.natAbs ≤ 1267650600228229401496703205376 by omega) (by decide))
theorem log_lt {n p : Nat} (h : n < 2 ^ p) (hp : 0 < p) : n.log2 < p := by
  by_cases h0 : n = 0
  · subst h0
    simpa using hp
  · exact (Nat.log2_lt h0).mpr h
theorem cdiv100 (h0 : 0 < b) (hb : b ≤ 1267650600228229401496703205376) : L2.CDivW a b := ⟨h0, Nat.lt_of_lt_of_le (log_lt (p := 200) (Nat.lt_of_le_of_lt (show b.natAbs ≤ 1267650600228229401496703205376 by omega) (by decide)) (by decide)) (by decide)⟩
theorem opt_if {c : Prop} [Decidable c] {d : PV} {R : PV → Prop} : (∃ a, (if c then some d else none) = some a ∧ R a) ↔ c ∧ R d := by
  by_cases h : c
  · simp only [if_pos h, h, true_and]; simp
  · simp only [if_neg h, h, false_and]; simp
theorem ok_add : Okx E (lft (addP (.int a) (.int b))) s Q ↔ Q (.int (a + b)) s := Iff.rfl
theorem ok_addS : Okx E (lft (addP (.str x) (.str y))) s Q ↔ x.length + y.length ≤ sizeLine ∧ Q (.str (x ++ y)) s := by
  exact ok_lft.trans opt_if
theorem ok_addT : Okx E (lft (addP (.tup xs) (.tup ys))) s Q ↔ xs.length + ys.length ≤ sizeLine ∧ Q (.tup (xs ++ ys)) s := by
  exact ok_lft.trans opt_if
theorem ok_addL : Okx E (lft (addP (.lst xs) (.lst ys))) s Q ↔ xs.length + ys.length ≤ sizeLine ∧ Q (.lst (xs ++ ys)) s := by
  exact ok_lft.trans opt_if
theorem ok_sub : Okx E (lft (subP (.int a) (.int b))) s Q ↔ Q (.int (a - b)) s := Iff.rfl
theorem ok_mul : Okx E (lft (mulP (.int a) (.int b))) s Q ↔ L2.CMulW a b ∧ Q (.int (a * b)) s := by
  exact ok_lft.trans opt_if
theorem ok_div : Okx E (lft (fdivP (.int a) (.int b))) s Q ↔ L2.CDivW a b ∧ Q (.int (a / b)) s := by
  exact ok_lft.trans opt_if
theorem ok_mod : Okx E (lft (modP (.int a) (.int b))) s Q ↔ 0 < b ∧ Q (.int (a % b)) s := by
  exact ok_lft.trans opt_if
theorem ok_pow : Okx E (lft (powP (.int a) (.int b))) s Q ↔ L2.CPow a b ∧ Q (.int (a ^ b.toNat)) s := by
  exact ok_lft.trans opt_if
theorem ok_rep {k : Int} : Okx E (lft (mulP (.lst xs) (.int k))) s Q ↔ ((-(2 ^ 63) ≤ k ∧ k < 2 ^ 63) ∧ xs.length * k.toNat ≤ sizeLine) ∧ Q (.lst (List.replicate k.toNat xs).flatten) s := by
  exact ok_lft.trans opt_if
theorem ok_ord {f : Int → Int → Bool} : Okx E (lft (ordP f (.int a) (.int b))) s Q ↔ Q (.bl (f a b)) s := Iff.rfl
theorem ok_fInt : Okx E (lft (intP (.int a))) s Q ↔ Q (.int a) s := Iff.rfl
theorem ok_fAbs : Okx E (lft (absP (.int a))) s Q ↔ Q (.int (if a < 0 then -a else a)) s := Iff.rfl
theorem ok_fNeg : Okx E (lft (negP (.int a))) s Q ↔ Q (.int (-a)) s := Iff.rfl
theorem ok_lenL : Okx E (lft (lenP (.lst xs))) s Q ↔ Q (.int xs.length) s := Iff.rfl
theorem ok_lenT : Okx E (lft (lenP (.tup xs))) s Q ↔ Q (.int xs.length) s := Iff.rfl
theorem ok_lenS : Okx E (lft (lenP (.str x))) s Q ↔ x.length ≤ sizeLine ∧ Q (.int x.length) s := by
  exact ok_lft.trans opt_if
theorem ok_fListL : Okx E (lft (listP (.lst xs))) s QL ↔ QL xs s := Iff.rfl
theorem ok_fListT : Okx E (lft (listP (.tup xs))) s QL ↔ QL xs s := Iff.rfl
theorem ok_fTupleL : Okx E (lft (tupleP (.lst xs))) s Q ↔ Q (.tup xs) s := Iff.rfl
theorem ok_fTupleT : Okx E (lft (tupleP (.tup xs))) s Q ↔ Q (.tup xs) s := Iff.rfl
theorem eqP_data {neg : Bool} {v w : PV} {d e : PyData} (hv : v.toD = some d) (hw : w.toD = some e) (h1 : SeqAt.shaped d = true) (h2 : SeqAt.shaped e = true) : eqP neg v w = some (.bl (if neg then !PyData.eqv d e else PyData.eqv d e)) := by
  unfold eqP
  split
  · rw [PV.toD] at hv hw
    cases hv
    cases hw
    simp [PyData.eqv]
  · simp [hv, hw, h1, h2]
theorem ok_eqD {neg : Bool} {v w : PV} {d e : PyData} (hv : v.toD = some d) (hw : w.toD = some e) (h1 : SeqAt.shaped d = true) (h2 : SeqAt.shaped e = true) : Okx E (lft (eqP neg v w)) s Q ↔ Q (.bl (if neg then !PyData.eqv d e else PyData.eqv d e)) s := by
  rw [ok_lft, eqP_data hv hw h1 h2]
  simp
theorem shaped_int {i : Int} : SeqAt.shaped (PyData.int i) = true := by unfold SeqAt.shaped; simp [PyData.canLay0, PyData.depth]
theorem shaped_bool {i : Bool} : SeqAt.shaped (PyData.bool i) = true := by unfold SeqAt.shaped; simp [PyData.canLay0, PyData.depth]
theorem ok_eqI {neg : Bool} : Okx E (lft (eqP neg (.int a) (.int b))) s Q ↔ Q (.bl (if neg then !(a == b) else a == b)) s := by
  have e : PyData.eqv (.int a) (.int b) = (a == b) := by simp [PyData.eqv]
  rw [ok_eqD (d := .int a) (e := .int b) (by rw [PV.toD]) (by rw [PV.toD]) shaped_int shaped_int, e]
theorem ok_eqS {neg : Bool} : Okx E (lft (eqP neg (.str x) (.str y))) s Q ↔ Q (.bl (if neg then !(x == y) else x == y)) s := by
  rw [ok_lft]
  unfold eqP
  simp
theorem ok_eqB {neg : Bool} {a b : Bool} : Okx E (lft (eqP neg (.bl a) (.bl b))) s Q ↔ Q (.bl (if neg then !(a == b) else a == b)) s := by
  have e : PyData.eqv (.bool a) (.bool b) = (a == b) := by simp [PyData.eqv]
  rw [ok_eqD (d := .bool a) (e := .bool b) (by rw [PV.toD]) (by rw [PV.toD]) shaped_bool shaped_bool, e]
/-- xs == [] -/
theorem ok_eqNil {neg : Bool} {ds : List PyData} (h : PV.toDs xs = some ds) (hs : SeqAt.shaped (.list ds) = true) : Okx E (lft (eqP neg (.lst xs) (.lst []))) s Q ↔ Q (.bl (if neg then !xs.isEmpty else xs.isEmpty)) s := by
  have e1 : (PV.lst xs).toD = some (.list ds) := by rw [PV.toD, h]; rfl
  have e2 : (PV.lst []).toD = some (.list []) := by rw [PV.toD, PV.toDs]; rfl
  have e3 : SeqAt.shaped (.list []) = true := by decide +kernel
  have e4 : PyData.eqv (.list ds) (.list []) = xs.isEmpty := by
    rw [PyData.eqv]
    cases xs with
    | nil => rw [PV.toDs] at h; cases h; rw [PyData.eqvAll]; rfl
    | cons z r =>
      rw [PV.toDs] at h
      split at h
      · cases h; rw [PyData.eqvAll]; rfl
      · cases h
  rw [ok_eqD e1 e2 hs e3, e4]
theorem toDs_ints (ns : List Int) : PV.toDs (ns.map PV.int) = some (ns.map PyData.int) := by
  induction ns with
  | nil => rw [List.map_nil, PV.toDs]; rfl
  | cons n r ih => rw [List.map_cons, PV.toDs, ih, PV.toD]; rfl
theorem toDs_strs (ns : List Str) : PV.toDs (ns.map PV.str) = some (ns.map PyData.str) := by
  induction ns with
  | nil => rw [List.map_nil, PV.toDs]; rfl
  | cons n r ih => rw [List.map_cons, PV.toDs, ih, PV.toD]; rfl
theorem canLay_ints (ns : List Int) : PyData.canLayAll0 (ns.map PyData.int) = true := by
  induction ns with
  | nil => rfl
  | cons n r ih => rw [List.map_cons, PyData.canLayAll0, ih, PyData.canLay0]; rfl
theorem canLay_strs (ns : List Str) (h : ∀ x ∈ ns, PyData.strOk x = true) : PyData.canLayAll0 (ns.map PyData.str) = true := by
  induction ns with
  | nil => rfl
  | cons n r ih => rw [List.map_cons, PyData.canLayAll0, ih (fun x hx => h x (List.mem_cons_of_mem _ hx)), PyData.canLay0, h n List.mem_cons_self]; rfl
theorem depth_ints (ns : List Int) : PyData.depthAll (ns.map PyData.int) ≤ 1 := by
  induction ns with
  | nil => decide
  | cons n r ih =>
    rw [List.map_cons, PyData.depthAll, PyData.depth]
    omega
theorem depthStrs (ns : List Str) : PyData.depthAll (ns.map PyData.str) ≤ 1 := by
  induction ns with
  | nil => decide
  | cons n r ih =>
    rw [List.map_cons, PyData.depthAll, PyData.depth]
    omega
theorem shaped_list {ds : List PyData} (h1 : PyData.canLayAll0 ds = true) (h2 : PyData.depthAll ds ≤ 60) : SeqAt.shaped (.list ds) = true := by
  unfold SeqAt.shaped
  rw [PyData.canLay0, PyData.depth, h1]
  simp
  omega
theorem shaped_ints (ns : List Int) : SeqAt.shaped (.list (ns.map PyData.int)) = true := shaped_list (canLay_ints ns) (Nat.le_trans (depth_ints ns) (by decide))
theorem ok_prsN {QK : List (L2.Key × PV) → S → Prop} : Okx E (prsM []) s QK ↔ QK [] s := Iff.rfl
theorem ok_prsC {k : Str} {c : M PV} {r : List (Str × M PV)} {QK : List (L2.Key × PV) → S → Prop} : Okx E (prsM ((k, c) :: r)) s QK ↔ Okx E c s (fun d s' => Okx E (prsM r) s' (fun ds s2 => QK ((.inr k, d) :: ds) s2)) := by
  show Okx E (bnd c fun d => bnd (prsM r) fun ds => ret ((.inr k, d) :: ds)) s QK ↔ _
  rw [ok_bnd]
  exact ⟨fun h => h.imp fun a s' q => ok_bnd.mp q, fun h => h.imp fun a s' q => ok_bnd.mpr q⟩
theorem ok_dispM {kcs : List (Str × M PV)} : Okx E (dispM kcs) s Q ↔ Okx E (prsM kcs) s (fun kvs s' => kvs.length ≤ 15 ∧ Q (.hnd s'.sto.length) ⟨s'.env, s'.sto ++ [.dic (mergeP [] kvs)]⟩) := by
  unfold dispM
  rw [ok_bnd]
  have key : ∀ (kvs : List (L2.Key × PV)) (s' : S), Okx E (fun s : S => if kvs.length ≤ 15 then Res.ok (PV.hnd s.sto.length) { s with sto := s.sto ++ [.dic (mergeP [] kvs)] } else .stk) s' Q ↔ (kvs.length ≤ 15 ∧ Q (.hnd s'.sto.length) ⟨s'.env, s'.sto ++ [.dic (mergeP [] kvs)]⟩) := fun kvs s' => by
    unfold Okx
    by_cases h : kvs.length ≤ 15
    · simp [h]
    · simp [h]
  exact ⟨fun h => h.imp fun a s' q => (key a s').mp q, fun h => h.imp fun a s' q => (key a s').mpr q⟩
end
/-! ### a pen: the script's cells, how many were begun, what is left -/
section
variable {kc kb kl : Str} {cells : List Int} {b l v : Int} {E : PV → S → Prop}
def penD (kc kb kl : Str) (cells : List Int) (b l : Int) : List (L2.Key × PV) := [(.inr kc, .lst (cells.map .int)), (.inr kb, .int b), (.inr kl, .int l)]
structure Keys3 (kc kb kl : Str) : Prop where
  cb : kc ≠ kb
  cl : kc ≠ kl
  bl : kb ≠ kl
theorem pen_c : valP (penD kc kb kl cells b l) (.inr kc) = some (.lst (cells.map .int)) := by
  unfold valP penD
  simp
theorem pen_b (h : Keys3 kc kb kl) : valP (penD kc kb kl cells b l) (.inr kb) = some (.int b) := by
  unfold valP penD
  simp [List.find?_cons, h.cb]
theorem pen_l (h : Keys3 kc kb kl) : valP (penD kc kb kl cells b l) (.inr kl) = some (.int l) := by
  unfold valP penD
  simp [List.find?_cons, h.cl, h.bl]
theorem pen_put_b (h : Keys3 kc kb kl) : putP (penD kc kb kl cells b l) (.inr kb) (.int v) = penD kc kb kl cells v l := by
  unfold putP penD
  simp [h.cb, h.bl.symm]
theorem pen_put_l (h : Keys3 kc kb kl) : putP (penD kc kb kl cells b l) (.inr kl) (.int v) = penD kc kb kl cells b v := by
  unfold putP penD
  simp [h.cl, h.bl]
theorem pen_new (h : Keys3 kc kb kl) : mergeP [] [(.inr kc, .lst (cells.map .int)), (.inr kb, .int b), (.inr kl, .int l)] = penD kc kb kl cells b l := by
  unfold mergeP putP penD
  simp [h.cb, h.cl, h.bl]
end
end Dn
/-! Pl3: more answers: subscripts, unpacking, sorting, membership, blocks that answer somehow. -/
namespace Dn
open PySem
section
variable {s : S} {Q : PV → S → Prop} {QL : List PV → S → Prop} {QF : Fl → S → Prop} {a b : Int} {x y : Str} {xs ys : List PV} {i j : Nat} {ca : M PV} {E : PV → S → Prop}
theorem ok_ixL {k : Int} : Okx E (lft (ixP (.lst xs) (.int k))) s Q ↔ ∃ v, L2.atI xs k = some v ∧ Q v s := ok_lft
theorem ok_ixT {k : Int} : Okx E (lft (ixP (.tup xs) (.int k))) s Q ↔ ∃ v, L2.atI xs k = some v ∧ Q v s := ok_lft
theorem ok_ixS {k : Int} (hx : x.length ≤ sizeLine) : Okx E (lft (ixP (.str x) (.int k))) s Q ↔ ∃ c, L2.atI x.cps.toList k = some c ∧ Q (.str ⟨#[c]⟩) s := by
  rw [ok_lft]
  simp only [ixP, if_pos hx]
  constructor
  · rintro ⟨v, h1, h2⟩
    obtain ⟨c, e, rfl⟩ := Option.map_eq_some_iff.mp h1
    exact ⟨c, e, h2⟩
  · rintro ⟨c, e, h2⟩
    exact ⟨_, by rw [e]; rfl, h2⟩
theorem atI_in {α : Type} {ds : List α} {k : Int} (h0 : 0 ≤ k) (h1 : k < ds.length) : ∃ v, L2.atI ds k = some v ∧ v ∈ ds := by
  obtain ⟨m, rfl⟩ := Int.eq_ofNat_of_zero_le h0
  have hm : m < ds.length := by simpa using h1
  exact ⟨ds[m], L2.atI_nat (List.getElem?_eq_getElem hm), List.getElem_mem hm⟩
def unpK (E : PV → S → Prop) (is : List Nat) (s : S) (Q : Fl → S → Prop) : PV → Prop
  | .tup xs => xs.length = is.length ∧ Okx E (setAll is xs) s Q
  | _ => False
theorem ok_unp {is : List Nat} : Okx E (unpM is ca) s QF ↔ Okx E ca s (fun d s' => unpK E is s' QF d) := by
  unfold unpM
  rw [ok_bnd]
  refine ⟨fun h => h.imp fun a s' q => ?_, fun h => h.imp fun a s' q => ?_⟩ <;> cases a <;> try exact q
  · rename_i zs
    by_cases hl : zs.length = is.length
    · have q : Okx E (if zs.length = is.length then setAll is zs else stuck) s' QF := q
      rw [if_pos hl] at q
      exact ⟨hl, q⟩
    · have q : Okx E (if zs.length = is.length then setAll is zs else stuck) s' QF := q
      rw [if_neg hl] at q
      exact q.elim
  · rename_i zs
    show Okx E (if zs.length = is.length then setAll is zs else stuck) s' QF
    rw [if_pos q.1]
    exact q.2
theorem unpK_tup {is : List Nat} : unpK E is s QF (.tup xs) ↔ xs.length = is.length ∧ Okx E (setAll is xs) s QF := Iff.rfl
theorem ok_set0 : Okx E (setAll [] []) s QF ↔ QF .nx s := Iff.rfl
theorem ok_setC {is : List Nat} {d : PV} {env : Env} {st : List MO} : Okx E (setAll (i :: is) (d :: xs)) ⟨env, st⟩ QF ↔ Okx E (setAll is xs) ⟨env.set i (some (.val d)), st⟩ QF := by
  show Okx E (bnd (setV i d) fun _ => setAll is xs) ⟨env, st⟩ QF ↔ _
  rw [ok_bnd]
  exact Iff.rfl
theorem ok_sortL {ss : List Str} : Okx E (lft (sortP (.lst (ss.map .str)))) s QL ↔ QL ((sortS ss).map .str) s := by
  rw [ok_lft]; simp [sortP, strsOf_map]
theorem ok_sortT {ss : List Str} : Okx E (lft (sortP (.tup (ss.map .str)))) s QL ↔ QL ((sortS ss).map .str) s := by
  rw [ok_lft]; simp [sortP, strsOf_map]
theorem ok_allL {bs : List Bool} : Okx E (lft (allP (.lst (bs.map .bl)))) s Q ↔ Q (.bl (bs.all id)) s := by
  rw [ok_lft]; simp [allP, blsOf_map]
theorem ok_inT {neg : Bool} {ss : List Str} : Okx E (lft (inP neg (.str x) (.tup (ss.map .str)))) s Q ↔ Q (.bl (if neg then !decide (x ∈ ss) else decide (x ∈ ss))) s := by
  rw [ok_lft]; unfold inP; simp only [strsOf_map]; simp
theorem ok_reprD {v : PV} {d : PyData} (hv : v.toD = some d) (h1 : d.showable = true) (h2 : d.hasDict = false) (h3 : d.depth ≤ 64) (h4 : d.shown.length ≤ sizeLine) : Okx E (lft (reprP v)) s Q ↔ Q (.str d.shown) s := by
  rw [ok_lft]
  have e : reprP v = some (.str d.shown) := by
    unfold reprP
    split
    · rename_i kvs
      rw [PV.toD] at hv
      cases hv
    · simp [hv, h1, h2, h3, h4]
  rw [e]
  simp
/-! ### data that can be shown and compared -/
structure GdD (n w : Nat) (d : PyData) : Prop where
  lay : d.canLay0 = true
  show' : d.showable = true
  short : d.intsShort 13 = true
  dep : d.depth ≤ n
  wt : d.weight ≤ w
structure GdA (n w : Nat) (ds : List PyData) : Prop where
  lay : PyData.canLayAll0 ds = true
  show' : PyData.showableAll ds = true
  short : PyData.intsShortAll 13 ds = true
  dep : PyData.depthAll ds ≤ n
  wt : PyData.weightAll ds ≤ w
def Gd (n w : Nat) (v : PV) : Prop := ∃ d, v.toD = some d ∧ GdD n w d
theorem GdD.mono {n w n' w' : Nat} {d : PyData} (h : GdD n w d) (hn : n ≤ n') (hw : w ≤ w') : GdD n' w' d := ⟨h.lay, h.show', h.short, Nat.le_trans h.dep hn, Nat.le_trans h.wt hw⟩
theorem Gd.mono {n w n' w' : Nat} {v : PV} (h : Gd n w v) (hn : n ≤ n') (hw : w ≤ w') : Gd n' w' v := by
  obtain ⟨d, e, g⟩ := h
  exact ⟨d, e, g.mono hn hw⟩
theorem gdAll {n w : Nat} : ∀ {vs : List PV}, (∀ v ∈ vs, Gd n w v) → ∃ ds, PV.toDs vs = some ds ∧ GdA n (vs.length * (w + 1)) ds
  | [], _ => ⟨[], by rw [PV.toDs], ⟨rfl, rfl, rfl, Nat.zero_le _, Nat.zero_le _⟩⟩
  | v :: vs, h => by
    obtain ⟨d, e, g⟩ := h v List.mem_cons_self
    obtain ⟨ds, es, gs⟩ := gdAll fun z hz => h z (List.mem_cons_of_mem _ hz)
    refine ⟨d :: ds, by rw [PV.toDs, e, es], ⟨?_, ?_, ?_, ?_, ?_⟩⟩
    · rw [PyData.canLayAll0, g.lay, gs.lay]; rfl
    · rw [PyData.showableAll, g.show', gs.show']; rfl
    · rw [PyData.intsShortAll, g.short, gs.short]; rfl
    · rw [PyData.depthAll]; exact Nat.max_le.mpr ⟨g.dep, gs.dep⟩
    · rw [PyData.weightAll, List.length_cons, Nat.add_mul]
      have h1 := g.wt
      have h2 := gs.wt
      omega
theorem gd_tup {n w : Nat} {vs : List PV} (h : ∀ v ∈ vs, Gd n w v) : Gd (n + 1) (vs.length * (w + 1)) (.tup vs) := by
  obtain ⟨ds, e, g⟩ := gdAll h
  refine ⟨.tuple ds, by rw [PV.toD, e]; rfl, ⟨?_, ?_, ?_, ?_, ?_⟩⟩
  · rw [PyData.canLay0]; exact g.lay
  · rw [PyData.showable]; exact g.show'
  · rw [PyData.intsShort]; exact g.short
  · rw [PyData.depth]; have := g.dep; omega
  · rw [PyData.weight]; exact g.wt
theorem gd_str {n w : Nat} {x : Str} (h : PyData.strOk x = true) (hw : x.length ≤ w) : Gd n w (.str x) := by
  refine ⟨.str x, by rw [PV.toD], ⟨by rw [PyData.canLay0]; exact h, by rw [PyData.showable], by rw [PyData.intsShort], by rw [PyData.depth]; exact Nat.zero_le _, by rw [PyData.weight]; exact hw⟩⟩
theorem gd_non {n w : Nat} : Gd n w .non :=
  ⟨.none, by rw [PV.toD], ⟨by rw [PyData.canLay0], by rw [PyData.showable], by rw [PyData.intsShort], by rw [PyData.depth]; exact Nat.zero_le _, by rw [PyData.weight]; exact Nat.zero_le _⟩⟩
theorem gd_int {n : Nat} {k : Int} (h : k.natAbs < 10 ^ 12) : Gd n 40 (.int k) := by
  have hl : k.natAbs.log2 < 40 := log_lt (Nat.lt_trans h (by decide)) (by decide)
  refine ⟨.int k, by rw [PV.toD], ⟨by rw [PyData.canLay0], ?_, ?_, by rw [PyData.depth]; exact Nat.zero_le _, ?_⟩⟩
  · rw [PyData.showable, decide_eq_true_eq]; omega
  · rw [PyData.intsShort, decide_eq_true_eq]; exact PyData.shown_int_le h
  · rw [PyData.weight]
    split <;> omega
theorem GdA.shaped {n w : Nat} {ds : List PyData} (h : GdA n w ds) (hn : n ≤ 60) : SeqAt.shaped (.list ds) = true := shaped_list h.lay (Nat.le_trans h.dep hn)
theorem GdD.shaped {n w : Nat} {d : PyData} (h : GdD n w d) (hn : n ≤ 60) : SeqAt.shaped d = true := by
  have h2 : d.depth ≤ 60 := Nat.le_trans h.dep hn
  unfold SeqAt.shaped
  rw [h.lay]
  simp
  omega
/-- the text that repr gives -/
def rp (v : PV) : Str := match v.toD with
  | some d => d.shown
  | none => ""
theorem ok_repr {n w : Nat} {v : PV} (h : Gd n w v) (hn : n ≤ 60) (hw : w ≤ 1048576) : Okx E (lft (reprP v)) s Q ↔ Q (.str (rp v)) s := by
  obtain ⟨d, e, g⟩ := h
  have e2 : rp v = d.shown := by unfold rp; rw [e]
  rw [e2]
  exact ok_reprD e g.show' (PyData.hasDict_of_canLay d g.lay) (Nat.le_trans g.dep (by omega)) (PyData.shown_fits (B := 13) (by decide) (by decide) (PyData.leavesShort_of_canLay0 13 d g.lay g.short) (Nat.le_trans g.wt hw))
theorem ok_eqNilG {neg : Bool} {n w : Nat} (h : ∀ v ∈ xs, Gd n w v) (hn : n ≤ 60) : Okx E (lft (eqP neg (.lst xs) (.lst []))) s Q ↔ Q (.bl (if neg then !xs.isEmpty else xs.isEmpty)) s := by
  obtain ⟨ds, e, g⟩ := gdAll h
  exact ok_eqNil e (g.shaped hn)
/-! ### texts: valid ones -/
def sOk (w : Nat) (x : Str) : Prop := PyData.strOk x = true ∧ x.length ≤ w
theorem strOk_iff {x : Str} : PyData.strOk x = true ↔ ∀ c ∈ x.cps.toList, c < 0x110000 := by
  unfold PyData.strOk
  constructor
  · intro h c hc
    have := (Array.all_eq_true_iff_forall_mem.mp h) c (Array.mem_toList_iff.mp hc)
    simpa using this
  · intro h
    refine Array.all_eq_true_iff_forall_mem.mpr fun c hc => ?_
    have := h c (Array.mem_toList_iff.mpr hc)
    simpa using this
theorem sOk.mono {w w' : Nat} (hx : sOk w x) (h : w ≤ w') : sOk w' x := ⟨hx.1, Nat.le_trans hx.2 h⟩
/-! ### an answer as an equation -/
theorem OkFx.eq {r : RR} {d : PV} {st : List MO} (h : OkF r (fun b t => b = d ∧ t = st)) : r = .ok d st := by
  obtain ⟨b, t, e, rfl, rfl⟩ := h.ex
  exact e
theorem OkFx.of {r : RR} {d : PV} {st : List MO} {Q : PV → List MO → Prop} (e : r = .ok d st) (h : Q d st) : OkF r Q := by rw [e]; exact h
def chkK (Q : Prop) : Option (Option SV) → Prop
  | some (some _) => Q
  | _ => False
theorem ok_chk' {env : Env} {st : List MO} {QU : Unit → S → Prop} : Okx E (chk i) ⟨env, st⟩ QU ↔ chkK (QU () ⟨env, st⟩) env[i]? := by
  unfold Okx chk chkK
  dsimp only
  rcases env[i]? with _ | _ | sv <;> exact Iff.rfl
theorem chkK_some {P : Prop} {sv : SV} : chkK P (some (some sv)) ↔ P := Iff.rfl
theorem flK_nx {N : S → Prop} : flK QF N s .nx ↔ N s := Iff.rfl
theorem flK_ct {N : S → Prop} : flK QF N s .ct ↔ N s := Iff.rfl
theorem flK_bk {N : S → Prop} : flK QF N s .bk ↔ QF .nx s := Iff.rfl
theorem flK_rt {N : S → Prop} {d : PV} : flK QF N s (.rt d) ↔ QF (.rt d) s := Iff.rfl
theorem sl_L {lo hi : Option Int} {R : PV → Prop} : (∃ z, slP (.lst xs) lo hi = some z ∧ R z) ↔ R (.lst (cutP xs lo hi)) := by simp [slP]
theorem sl_T {lo hi : Option Int} {R : PV → Prop} : (∃ z, slP (.tup xs) lo hi = some z ∧ R z) ↔ R (.tup (cutP xs lo hi)) := by simp [slP]
theorem sl_S {lo hi : Option Int} {R : PV → Prop} : (∃ z, slP (.str x) lo hi = some z ∧ R z) ↔ x.length ≤ sizeLine ∧ R (.str (L2.cutS x lo hi)) := by
  show (∃ z, (if x.length ≤ sizeLine then some (PV.str (L2.cutS x lo hi)) else none) = some z ∧ R z) ↔ _
  exact opt_if
theorem it_L {R : List PV → Prop} : (∃ z, itemsP (.lst xs) = some z ∧ R z) ↔ R xs := by simp [itemsP]
theorem it_T {R : List PV → Prop} : (∃ z, itemsP (.tup xs) = some z ∧ R z) ↔ R xs := by simp [itemsP]
/-! ### own lists -/
theorem ok_chkO {env : Env} {st : List MO} {QU : Unit → S → Prop} : Okx E (chkO i) ⟨env, st⟩ QU ↔ (∃ zs, env[i]? = some (some (.own zs))) ∧ QU () ⟨env, st⟩ := by
  unfold Okx chkO
  dsimp only
  rcases env[i]? with _ | _ | sv
  · exact ⟨fun h => h.elim, fun ⟨⟨_, h⟩, _⟩ => nomatch h⟩
  · exact ⟨fun h => h.elim, fun ⟨⟨_, h⟩, _⟩ => nomatch h⟩
  · cases sv with
    | val => exact ⟨fun h => h.elim, fun ⟨⟨_, h⟩, _⟩ => nomatch h⟩
    | own zs => exact ⟨fun h => ⟨⟨zs, rfl⟩, h⟩, fun h => h.2⟩
theorem ok_app {env : Env} {st : List MO} : Okx E (appM i ca) ⟨env, st⟩ Q ↔ (∃ zs, env[i]? = some (some (.own zs))) ∧ Okx E ca ⟨env, st⟩ (fun d s' => Okx E (pushM i d) s' Q) := by
  unfold appM
  rw [ok_bnd, ok_chkO, ok_bnd]
theorem ok_push {env : Env} {st : List MO} {d : PV} {zs : List PV} (h : env[i]? = some (some (.own zs))) (hl : zs.length < sizeLine) : Okx E (pushM i d) ⟨env, st⟩ Q ↔ Q .non ⟨env.set i (some (.own (zs ++ [d]))), st⟩ := by
  unfold Okx pushM
  simp only [h, hl, if_true]
theorem ok_pop {env : Env} {st : List MO} : Okx E (popM i ca) ⟨env, st⟩ Q ↔ (∃ zs, env[i]? = some (some (.own zs))) ∧ Okx E ca ⟨env, st⟩ (fun d s' => Okx E (takeM i d) s' Q) := by
  unfold popM
  rw [ok_bnd, ok_chkO, ok_bnd]
theorem ok_take {env : Env} {st : List MO} {k : Nat} {zs : List PV} {z : PV} (h : env[i]? = some (some (.own zs))) (hz : zs[k]? = some z) (hk : k < 2 ^ 63) : Okx E (takeM i (.int k)) ⟨env, st⟩ Q ↔ Q z ⟨env.set i (some (.own (zs.eraseIdx k))), st⟩ := by
  have hlt : k < zs.length := (List.getElem?_eq_some_iff.mp hz).1
  have e : seqIndex? (k : Int) zs.length = some k := by
    unfold seqIndex?
    simp
    omega
  unfold Okx takeM
  have h2 : (-(2 ^ 63) : Int) ≤ (k : Int) ∧ (k : Int) < 2 ^ 63 := by omega
  simp only [h, e, hz, h2, and_self, if_true]
/-! ### blocks that answer somehow -/
/-- with every turn making one thing -/
theorem ok_lcEach {vs : List Nat} {elt : M PV} {zs : List PV} {env : Env} {st : List MO} (I : Nat → List MO → Prop) (R : PV → Prop) (hw : wip env vs = env) (hi : i ∈ vs) (hl : zs.length ≤ sizeLine) (h0 : I 0 st)
    (hwi : ∀ x : PV, wip (env.set i (some (.val x))) vs = env)
    (hc : ∀ k x st, zs[k]? = some x → I k st → Ok elt ⟨env.set i (some (.val x)), st⟩ (fun y s2 => s2.env = env.set i (some (.val x)) ∧ R y ∧ I (k + 1) s2.sto))
    (hd : ∀ ys st', ys.length = zs.length → (∀ y ∈ ys, R y) → I zs.length st' → QL ys ⟨env, st'⟩) : Okx E (lcGo i vs (ret true) elt zs []) ⟨env, st⟩ QL := by
  refine ok_lcGo (fun k acc s => k ≤ zs.length ∧ s.env = env ∧ I k s.sto ∧ acc.length = k ∧ ∀ y ∈ acc, R y) ⟨Nat.zero_le _, rfl, h0, rfl, fun y h => by cases h⟩ ?_ ?_
  · rintro k x acc ⟨env', st'⟩ hx ⟨hk, rfl, hI, hla, hR⟩
    have hk' : k < zs.length := (List.getElem?_eq_some_iff.mp hx).1
    show Ok elt _ _
    refine (hc k x st' hx hI).imp fun y s2 q2 => ⟨by omega, hk', by rw [q2.1, hwi], q2.2.2, by simp; omega, fun z hz => ?_⟩
    rcases List.mem_append.mp hz with hz | hz
    · exact hR z hz
    · rw [List.mem_singleton.mp hz]
      exact q2.2.1
  · rintro acc ⟨env', st'⟩ ⟨_, rfl, hI, hla, hR⟩
    exact hd acc st' hla hR hI
/-- a typed filter and map: nothing changes -/
theorem ok_lcT {α : Type} {vs : List Nat} {cond : M Bool} {elt : M PV} {as : List α} (g : α → PV) {env : Env} {st : List MO} (p : α → Bool) (f : α → PV) (hw : wip env vs = env) (hi : i ∈ vs) (hl : as.length ≤ sizeLine)
    (hwi : ∀ x : PV, wip (env.set i (some (.val x))) vs = env)
    (hc : ∀ a ∈ as, Ok cond ⟨env.set i (some (.val (g a))), st⟩ (fun b s1 => b = p a ∧ s1 = ⟨env.set i (some (.val (g a))), st⟩))
    (he : ∀ a ∈ as, p a = true → Ok elt ⟨env.set i (some (.val (g a))), st⟩ (fun y s1 => y = f a ∧ s1 = ⟨env.set i (some (.val (g a))), st⟩))
    (hd : QL ((as.filter p).map f) ⟨env, st⟩) : Okx E (lcGo i vs cond elt (as.map g) []) ⟨env, st⟩ QL := by
  refine ok_lcGo (fun k acc s => s = ⟨env, st⟩ ∧ acc = ((as.take k).filter p).map f) ⟨rfl, by simp⟩ ?_ ?_
  · rintro k x acc s' hx ⟨rfl, rfl⟩
    rw [List.getElem?_map] at hx
    obtain ⟨a, hx2, rfl⟩ := Option.map_eq_some_iff.mp hx
    clear hx
    have hx := hx2
    have hm : a ∈ as := List.mem_of_getElem? hx
    have hk : k < as.length := (List.getElem?_eq_some_iff.mp hx).1
    have ht : as.take (k + 1) = as.take k ++ [a] := by
      rw [List.take_succ, hx]
      rfl
    refine (hc a hm).imp fun b s1 q => ?_
    obtain ⟨rfl, rfl⟩ := q
    cases hp : p a with
    | true =>
      simp only [if_true]
      refine (he a hm hp).imp fun y s2 q => ?_
      obtain ⟨rfl, rfl⟩ := q
      refine ⟨?_, by simp only [hwi], ?_⟩
      · refine Nat.lt_of_lt_of_le ?_ hl
        rw [List.length_map]
        exact Nat.lt_of_le_of_lt (List.length_filter_le _ _) (by rw [List.length_take]; omega)
      · rw [ht, List.filter_append, List.map_append, List.filter_cons, hp]
        rfl
    | false =>
      simp only [Bool.false_eq_true, if_false]
      refine ⟨by simp only [hwi], ?_⟩
      rw [ht, List.filter_append, List.map_append, List.filter_cons, hp]
      simp
  · rintro acc s' ⟨rfl, rfl⟩
    rw [List.length_map, List.take_length]
    exact hd
theorem ex_map {α : Type} {f : α → PV} {P : α → Prop} : ∀ {ys : List PV}, (∀ y ∈ ys, ∃ a, y = f a ∧ P a) → ∃ as : List α, ys = as.map f ∧ ∀ a ∈ as, P a
  | [], _ => ⟨[], rfl, fun a h => by cases h⟩
  | y :: ys, h => by
    obtain ⟨a, rfl, ha⟩ := h y List.mem_cons_self
    obtain ⟨as, rfl, h2⟩ := ex_map fun z hz => h z (List.mem_cons_of_mem _ hz)
    exact ⟨a :: as, rfl, fun b hb => by
      rcases List.mem_cons.mp hb with rfl | hb
      · exact ha
      · exact h2 b hb⟩
end
end Dn
/-! Pl4: cuts, joined texts, ranges, lots of titles. -/
namespace Dn
open PySem
section
variable {s : S} {Q : PV → S → Prop} {QL : List PV → S → Prop} {QF : Fl → S → Prop} {a b : Int} {x y : Str} {xs ys : List PV} {i j : Nat} {ca : M PV} {E : PV → S → Prop}
theorem sum_le {w : Nat} : ∀ {zs : List Str}, (∀ z ∈ zs, z.length ≤ w) → (zs.map (·.length)).sum ≤ zs.length * w
  | [], _ => Nat.zero_le _
  | z :: zs, h => by
    have h1 := h z List.mem_cons_self
    have h2 := sum_le fun z hz => h z (List.mem_cons_of_mem _ hz)
    rw [List.map_cons, List.sum_cons, List.length_cons, Nat.add_mul]
    omega
theorem joinP_map {zs : List Str} (h : (zs.map (·.length)).sum + zs.length * x.length ≤ 16777216) : joinP x (.lst (zs.map .str)) = some (.str (Txt.join x zs)) := by
  unfold joinP
  simp [strsOf_map, h]
theorem rngP_nat {k : Int} (h0 : 0 ≤ k) (h1 : k < 2 ^ 62) : rngP (.int k) = some ((List.range k.toNat).map fun (k : Nat) => PV.int (0 + (k : Int))) := by
  have : -(2 ^ 62) ≤ k ∧ k < 2 ^ 62 := by omega
  simp only [rngP, if_pos this]
theorem rng_get {k : Int} {t : Nat} {v : PV} (h : ((List.range k.toNat).map fun (k : Nat) => PV.int (0 + (k : Int)))[t]? = some v) : v = .int t ∧ (t : Int) < k := by
  rw [List.getElem?_map] at h
  obtain ⟨u, h1, rfl⟩ := Option.map_eq_some_iff.mp h
  obtain ⟨h2, h3⟩ := List.getElem?_eq_some_iff.mp h1
  rw [List.length_range] at h2
  rw [List.getElem_range] at h3
  subst h3
  refine ⟨by simp, by omega⟩
theorem rng_len {k : Int} : ((List.range k.toNat).map fun (k : Nat) => PV.int (0 + (k : Int))).length = k.toNat := by simp
theorem ones_fold : ∀ (ps : List Str) (acc : Array Nat), (∀ z ∈ ps, z.length = 1) → (ps.foldl (fun acc p => acc ++ (Str.ofString "").cps ++ p.cps) acc).size = acc.size + ps.length
  | [], acc, _ => rfl
  | p :: ps, acc, h => by
    rw [List.foldl_cons, ones_fold ps _ fun z hz => h z (List.mem_cons_of_mem _ hz), Array.size_append, Array.size_append]
    have e1 : (Str.ofString "").cps.size = 0 := rfl
    have e2 : p.cps.size = 1 := h p List.mem_cons_self
    rw [e1, e2, List.length_cons]
    omega
theorem join_one : ∀ zs : List Str, (∀ z ∈ zs, z.length = 1) → (Txt.join (Str.ofString "") zs).length = zs.length
  | [], _ => rfl
  | z :: r, h => by
    show (r.foldl (fun acc p => acc ++ (Str.ofString "").cps ++ p.cps) z.cps).size = _
    rw [ones_fold r _ fun y hy => h y (List.mem_cons_of_mem _ hy), List.length_cons]
    have e2 : z.cps.size = 1 := h z List.mem_cons_self
    omega
/-! ### lots: titles in tuples -/
end
end Dn
/-! Pl5: filters that answer somehow; lots of titles. -/
namespace Dn
open PySem
section
variable {s : S} {Q : PV → S → Prop} {QL : List PV → S → Prop} {i : Nat} {E : PV → S → Prop}
def Lt (l : List Str) : Prop := l.length ≤ 7 ∧ ∀ x ∈ l, sOk 40 x
def Ls (m : Nat) (ls : List (List Str)) : Prop := ls.length ≤ m ∧ ∀ l ∈ ls, Lt l
theorem Ls.mono {m m' : Nat} {ls : List (List Str)} (h : Ls m ls) (hm : m ≤ m') : Ls m' ls := ⟨Nat.le_trans h.1 hm, h.2⟩
theorem Ls.sub {m : Nat} {ls ls' : List (List Str)} (h : Ls m ls) (hl : ls'.length ≤ ls.length) (hs : ∀ l ∈ ls', l ∈ ls) : Ls m ls' := ⟨Nat.le_trans hl h.1, fun l hm => h.2 l (hs l hm)⟩
theorem filter_true {α : Type} (l : List α) : l.filter (fun _ => true) = l := List.filter_eq_self.mpr fun _ _ => rfl
theorem ok_seq {fa fb : M Fl} {Q : Fl → S → Prop} (h : Okx E fa s (fun fl s' => seqK E fb s' Q fl)) : Okx E (seqM fa fb) s Q := ok_seqM.mpr h
theorem ok_allM {α : Type} {p : α → Bool} {as : List α} : Okx E (lft (allP (.lst (as.map fun a => .bl (p a))))) s Q ↔ Q (.bl (as.all p)) s := by
  have e : (as.map fun a => PV.bl (p a)) = (as.map p).map PV.bl := by rw [List.map_map]; rfl
  rw [e, ok_allL, List.all_map]
  rfl
theorem Ls.app {m k : Nat} {a b : List (List Str)} (h1 : Ls m a) (h2 : Ls k b) : Ls (m + k) (a ++ b) := ⟨by rw [List.length_append]; exact Nat.add_le_add h1.1 h2.1, fun l hl => by
  rcases List.mem_append.mp hl with hl | hl
  · exact h1.2 l hl
  · exact h2.2 l hl⟩
end
end Dn
/-! Pl6: more answers: objects, methods, exceptions. -/
namespace Dn
open PySem
section
variable {s : S} {Q : PV → S → Prop} {QL : List PV → S → Prop} {QF : Fl → S → Prop} {a b : Int} {x y : Str} {xs ys : List PV} {i j n : Nat} {ca cb cc : M PV} {ra rb : M (List PV)} {fa fb : M Fl} {E : PV → S → Prop} {env : Env} {st : List MO} {m : Fn} {ds : List PV}
theorem okF_ok {EF : PV → List MO → Prop} {Q : PV → List MO → Prop} {d : PV} : OkFx EF (.ok d st) Q ↔ Q d st := Iff.rfl
theorem okF_exc {EF : PV → List MO → Prop} {Q : PV → List MO → Prop} {d : PV} : OkFx EF (.exc d st) Q ↔ EF d st := Iff.rfl
theorem ok_runM : Okx E (runM m n ds) s Q ↔ OkFx (fun e st => E e ⟨s.env, st⟩) (m n ds s.sto) (fun d st => Q d ⟨s.env, st⟩) := by
  unfold Okx OkFx runM
  dsimp only
  cases m n ds s.sto <;> exact Iff.rfl
theorem ok_appA : Okx E (appA i j ra rb) s QL ↔ Okx E ra s (fun a s1 => Okx E rb s1 (fun b s2 => (a.length = i ∧ b.length = j) ∧ QL (a ++ b) s2)) := by
  unfold appA
  rw [ok_bnd]
  have key : ∀ (a b : List PV) (s : S), Okx E (if a.length = i ∧ b.length = j then ret (a ++ b) else stuck) s QL ↔ (a.length = i ∧ b.length = j) ∧ QL (a ++ b) s := fun a b s => by
    by_cases h : a.length = i ∧ b.length = j
    · rw [if_pos h]; exact ⟨fun q => ⟨h, q⟩, fun q => q.2⟩
    · rw [if_neg h]; exact ⟨fun q => q.elim, fun q => (h q.1).elim⟩
  exact ⟨fun h => h.imp fun a s1 q => (ok_bnd.mp q).imp fun b s2 q => (key a b s2).mp q, fun h => h.imp fun a s1 q => ok_bnd.mpr (q.imp fun b s2 q => (key a b s2).mpr q)⟩
theorem ok_len1 : Okx E (bnd ra fun ds => if ds.length = i then ret ds else stuck) s QL ↔ Okx E ra s (fun ds s1 => ds.length = i ∧ QL ds s1) := by
  rw [ok_bnd]
  have key : ∀ (a : List PV) (s : S), Okx E (if a.length = i then ret a else stuck) s QL ↔ a.length = i ∧ QL a s := fun a s => by
    by_cases h : a.length = i
    · rw [if_pos h]; exact ⟨fun q => ⟨h, q⟩, fun q => q.2⟩
    · rw [if_neg h]; exact ⟨fun q => q.elim, fun q => (h q.1).elim⟩
  exact ⟨fun h => h.imp fun a s1 q => (key a s1).mp q, fun h => h.imp fun a s1 q => (key a s1).mpr q⟩
theorem ok_chain {f g : PV → PV → M PV} : Okx E (chainM f g ca cb cc) s Q ↔ Okx E ca s (fun a s1 => Okx E cb s1 (fun b s2 => Okx E (f a b) s2 (fun d s3 => blK s3 (fun x => if x = true then Okx E cc s3 (fun c s4 => Okx E (g b c) s4 Q) else Q (.bl false) s3) d))) := by
  unfold chainM
  rw [ok_bnd]
  have key : ∀ (b d : PV) (s : S), Okx E (match d with
    | .bl true => bnd cc fun c => g b c
    | .bl false => ret (.bl false)
    | _ => stuck : M PV) s Q ↔ blK s (fun x => if x = true then Okx E cc s (fun c s4 => Okx E (g b c) s4 Q) else Q (.bl false) s) d := fun b d s => by
    cases d <;> try exact Iff.rfl
    rename_i z
    cases z
    · exact Iff.rfl
    · exact ok_bnd
  exact ⟨fun h => h.imp fun a s1 q => (ok_bnd.mp q).imp fun b s2 q => (ok_bnd.mp q).imp fun d s3 q => (key b d s3).mp q,
    fun h => h.imp fun a s1 q => ok_bnd.mpr (q.imp fun b s2 q => ok_bnd.mpr (q.imp fun d s3 q => (key b d s3).mpr q))⟩
def isNonB : PV → Bool
  | .non => true
  | _ => false
theorem isNonB_non : isNonB .non = true := rfl
theorem isNonB_int : isNonB (.int a) = false := rfl
theorem isNonB_bl {b : Bool} : isNonB (.bl b) = false := rfl
theorem isNonB_str : isNonB (.str x) = false := rfl
theorem isNonB_tup : isNonB (.tup xs) = false := rfl
theorem isNonB_lst : isNonB (.lst xs) = false := rfl
theorem isNonB_obj {c : Str} {ks : List Str} : isNonB (.obj c ks xs) = false := rfl
theorem ok_isN {neg : Bool} : Okx E (isN neg ca) s Q ↔ Okx E ca s (fun d s1 => Q (.bl (isNonB d != neg)) s1) := by
  unfold isN
  rw [ok_bnd]
  refine ⟨fun h => h.imp fun a s' q => ?_, fun h => h.imp fun a s' q => ?_⟩ <;> cases a <;> cases neg <;> exact q
theorem ok_max : Okx E (lft (maxP (.int a) (.int b))) s Q ↔ Q (.int (max a b)) s := by
  have e : (if b > a then b else a) = max a b := by rw [Int.max_def]; split <;> split <;> omega
  rw [ok_lft, ← e]
  simp [maxP]
theorem ok_min : Okx E (lft (minP (.int a) (.int b))) s Q ↔ Q (.int (min a b)) s := by
  have e : (if b < a then b else a) = min a b := by rw [Int.min_def]; split <;> split <;> omega
  rw [ok_lft, ← e]
  simp [minP]
/-! isinstance of built-in types -/
theorem isi_of {t nm : String} {d : PV} {r : Bool} (h : tyP d = some t) (k : L2.kitB t nm = some r) : Okx E (lft (isiP nm d)) s Q ↔ Q (.bl r) s := by
  rw [ok_lft]
  simp [isiP, h, k]
theorem isi_int_int : Okx E (lft (isiP "int" (.int a))) s Q ↔ Q (.bl true) s := isi_of rfl (by decide +kernel)
theorem isi_int_bl {b : Bool} : Okx E (lft (isiP "int" (.bl b))) s Q ↔ Q (.bl true) s := isi_of rfl (by decide +kernel)
theorem isi_int_non : Okx E (lft (isiP "int" .non)) s Q ↔ Q (.bl false) s := isi_of rfl (by decide +kernel)
theorem isi_int_str : Okx E (lft (isiP "int" (.str x))) s Q ↔ Q (.bl false) s := isi_of rfl (by decide +kernel)
theorem isi_int_tup : Okx E (lft (isiP "int" (.tup xs))) s Q ↔ Q (.bl false) s := isi_of rfl (by decide +kernel)
theorem isi_int_lst : Okx E (lft (isiP "int" (.lst xs))) s Q ↔ Q (.bl false) s := isi_of rfl (by decide +kernel)
theorem isi_bool_int : Okx E (lft (isiP "bool" (.int a))) s Q ↔ Q (.bl false) s := isi_of rfl (by decide +kernel)
theorem isi_bool_bl {b : Bool} : Okx E (lft (isiP "bool" (.bl b))) s Q ↔ Q (.bl true) s := isi_of rfl (by decide +kernel)
theorem isi_str_str : Okx E (lft (isiP "str" (.str x))) s Q ↔ Q (.bl true) s := isi_of rfl (by decide +kernel)
theorem isi_str_int : Okx E (lft (isiP "str" (.int a))) s Q ↔ Q (.bl false) s := isi_of rfl (by decide +kernel)
theorem isi_str_bl {b : Bool} : Okx E (lft (isiP "str" (.bl b))) s Q ↔ Q (.bl false) s := isi_of rfl (by decide +kernel)
theorem isi_str_non : Okx E (lft (isiP "str" .non)) s Q ↔ Q (.bl false) s := isi_of rfl (by decide +kernel)
theorem isi_str_tup : Okx E (lft (isiP "str" (.tup xs))) s Q ↔ Q (.bl false) s := isi_of rfl (by decide +kernel)
theorem isi_str_lst : Okx E (lft (isiP "str" (.lst xs))) s Q ↔ Q (.bl false) s := isi_of rfl (by decide +kernel)
theorem isi_tuple_tup : Okx E (lft (isiP "tuple" (.tup xs))) s Q ↔ Q (.bl true) s := isi_of rfl (by decide +kernel)
theorem isi_tuple_int : Okx E (lft (isiP "tuple" (.int a))) s Q ↔ Q (.bl false) s := isi_of rfl (by decide +kernel)
theorem isi_tuple_bl {b : Bool} : Okx E (lft (isiP "tuple" (.bl b))) s Q ↔ Q (.bl false) s := isi_of rfl (by decide +kernel)
theorem isi_tuple_non : Okx E (lft (isiP "tuple" .non)) s Q ↔ Q (.bl false) s := isi_of rfl (by decide +kernel)
theorem isi_tuple_str : Okx E (lft (isiP "tuple" (.str x))) s Q ↔ Q (.bl false) s := isi_of rfl (by decide +kernel)
theorem isi_tuple_lst : Okx E (lft (isiP "tuple" (.lst xs))) s Q ↔ Q (.bl false) s := isi_of rfl (by decide +kernel)
/-! ### fields -/
def fldV (cs : List Str) (f : Str) (s : S) (d : PV) : Option PV := match insOf s d with
  | some (c, ks, vs) => if c ∈ cs then (ks.zip vs).lookup f else none
  | none => none
theorem ok_fldM {cs : List Str} {f : Str} {d : PV} : Okx E (fldM cs f d) s Q ↔ ∃ v, fldV cs f s d = some v ∧ Q v s := by
  unfold Okx fldM fldV
  cases insOf s d with
  | none => exact ⟨fun h => h.elim, fun ⟨_, h, _⟩ => nomatch h⟩
  | some t =>
    obtain ⟨c, ks, vs⟩ := t
    dsimp only
    by_cases h : c ∈ cs
    · rw [if_pos h, if_pos h]
      cases (ks.zip vs).lookup f with
      | none => exact ⟨fun h => h.elim, fun ⟨_, h, _⟩ => nomatch h⟩
      | some v => exact ⟨fun h => ⟨v, rfl, h⟩, fun ⟨w, e, h⟩ => by cases e; exact h⟩
    · rw [if_neg h, if_neg h]
      exact ⟨fun h => h.elim, fun ⟨_, h, _⟩ => nomatch h⟩
theorem ok_fld {cs : List Str} {f : Str} {d v : PV} (h : fldV cs f s d = some v) : Okx E (fldM cs f d) s Q ↔ Q v s := by
  rw [ok_fldM]
  exact ⟨fun ⟨w, e, q⟩ => by rw [h] at e; cases e; exact q, fun q => ⟨v, h, q⟩⟩
def conV (cs : List Str) (f : Str) (s : S) (d : PV) : Prop := match insOf s d with
  | some (c, ks, vs) => c ∈ cs ∧ (ks.zip vs).lookup f = none
  | none => False
theorem ok_conM {cs : List Str} {f : Str} {k : Int} {d : PV} : Okx E (conM cs f k d) s Q ↔ conV cs f s d ∧ Q (.int k) s := by
  unfold Okx conM conV
  cases insOf s d with
  | none => exact ⟨fun h => h.elim, fun h => h.1⟩
  | some t =>
    obtain ⟨c, ks, vs⟩ := t
    dsimp only
    by_cases h : c ∈ cs ∧ (ks.zip vs).lookup f = none
    · rw [if_pos h]
      exact ⟨fun q => ⟨h, q⟩, fun q => q.2⟩
    · rw [if_neg h]
      exact ⟨fun q => q.elim, fun q => h q.1⟩
def fputK (cs : List Str) (f : Str) (v : PV) (s : S) (Q : Fl → S → Prop) : PV → Prop
  | .hnd n => match s.sto[n]? with
    | some (.ins c ks vs) => (c ∈ cs ∧ ks.length < 1000) ∧ Q .nx ⟨s.env, s.sto.set n (.ins c (putKV f v ks vs).1 (putKV f v ks vs).2)⟩
    | _ => False
  | _ => False
theorem ok_fputM {cs : List Str} {f : Str} {cd cv : M PV} : Okx E (fputM cs f cd cv) s QF ↔ Okx E cv s (fun v s1 => Okx E cd s1 (fun d s2 => fputK cs f v s2 QF d)) := by
  unfold fputM
  rw [ok_bnd]
  have key : ∀ (v d : PV) (s : S), Okx E (fun s : S => match d with
      | .hnd n => match s.sto[n]? with
        | some (.ins c ks vs) => if c ∈ cs ∧ ks.length < 1000 then Res.ok Fl.nx { s with sto := s.sto.set n (.ins c (putKV f v ks vs).1 (putKV f v ks vs).2) } else .stk
        | _ => .stk
      | _ => .stk) s QF ↔ fputK cs f v s QF d := fun v d s => by
    unfold Okx fputK
    dsimp only
    cases d <;> try exact Iff.rfl
    rename_i n
    dsimp only
    cases s.sto[n]? with
    | none => exact Iff.rfl
    | some mo =>
      cases mo with
      | ins c ks vs =>
        dsimp only
        by_cases h : c ∈ cs ∧ ks.length < 1000
        · rw [if_pos h]; exact ⟨fun q => ⟨h, q⟩, fun q => q.2⟩
        · rw [if_neg h]; exact ⟨fun q => q.elim, fun q => h q.1⟩
      | dic => exact Iff.rfl
      | own => exact Iff.rfl
      | dtt => exact Iff.rfl
      | gone => exact Iff.rfl
  exact ⟨fun h => h.imp fun v s1 q => (ok_bnd.mp q).imp fun a s2 q => (key v a s2).mp q, fun h => h.imp fun v s1 q => ok_bnd.mpr (q.imp fun a s2 q => (key v a s2).mpr q)⟩
/-! an instance while it is made: the last two of the store -/
abbrev mkS (st : List MO) (c : Str) (ks : List Str) (vs : List PV) : List MO := st ++ [.ins c ks vs, .own st.length]
theorem mkS_get {c : Str} {ks : List Str} {vs : List PV} : (st ++ [MO.ins c ks vs, .own st.length])[st.length]? = some (.ins c ks vs) := by simp
theorem mkS_set {c : Str} {ks : List Str} {vs : List PV} {o : MO} : (st ++ [MO.ins c ks vs, .own st.length]).set st.length o = st ++ [o, .own st.length] := by simp
theorem fputK_new {cs : List Str} {f c : Str} {ks : List Str} {vs : List PV} {v : PV} : fputK cs f v ⟨env, mkS st c ks vs⟩ QF (.hnd st.length) ↔ (c ∈ cs ∧ ks.length < 1000) ∧ QF .nx ⟨env, mkS st c (putKV f v ks vs).1 (putKV f v ks vs).2⟩ := by
  unfold fputK
  simp only [mkS_get, mkS_set]
theorem fldV_new {cs : List Str} {f c : Str} {ks : List Str} {vs : List PV} : fldV cs f ⟨env, mkS st c ks vs⟩ (.hnd st.length) = if c ∈ cs then (ks.zip vs).lookup f else none := by
  unfold fldV insOf
  simp only [mkS_get]
theorem conV_new {cs : List Str} {f c : Str} {ks : List Str} {vs : List PV} : conV cs f ⟨env, mkS st c ks vs⟩ (.hnd st.length) ↔ c ∈ cs ∧ (ks.zip vs).lookup f = none := by
  unfold conV insOf
  simp only [mkS_get]
theorem insOf_new {c : Str} {ks : List Str} {vs : List PV} : insOf ⟨env, mkS st c ks vs⟩ (.hnd st.length) = some (c, ks, vs) := by
  unfold insOf
  simp only [mkS_get]
theorem insOf_obj {c : Str} {ks : List Str} {vs : List PV} : insOf s (.obj c ks vs) = some (c, ks, vs) := rfl
/-! ### an instance made -/
/-! ### methods, instances called, super() -/
def methD (tab : List (Str × Fn)) (n : Nat) (m : Str) (r : M (List PV)) (d : PV) : M PV := fun s => match insOf s d with
  | some (c, ks, vs) => if (ks.zip vs).lookup m = none then (match tab.lookup c with
    | some f => bnd r (fun ds => runM f n (d :: ds)) s
    | none => .stk) else .stk
  | none => .stk
theorem ok_methM {tab : List (Str × Fn)} {mn : Str} : Okx E (methM tab n mn ca ra) s Q ↔ Okx E ca s (fun d s1 => Okx E (methD tab n mn ra d) s1 Q) := ok_bnd
theorem methD_obj {tab : List (Str × Fn)} {mn c : Str} {ks : List Str} {vs : List PV} (hf : (ks.zip vs).lookup mn = none) (ht : tab.lookup c = some m) : methD tab n mn ra (.obj c ks vs) = bnd ra (fun ds => runM m n (.obj c ks vs :: ds)) := by
  funext s
  unfold methD
  simp only [insOf_obj, hf, ht, if_true]
theorem propM_obj {tab : List (Str × Fn)} {c : Str} {ks : List Str} {vs : List PV} {r : PV} (ht : tab.lookup c = some m) (hm : m n [.obj c ks vs] s.sto = .ok r s.sto) : Okx E (propM tab n (.obj c ks vs)) s Q ↔ Q r s := by
  have e : propM tab n (.obj c ks vs) s = .ok r s := by
    unfold propM
    simp only [insOf_obj, ht, hm]
  unfold Okx
  rw [e]
theorem ok_sup {tab : List (Str × Fn)} {d : PV} {c : Str} {ks : List Str} {vs : List PV} (h0 : env[0]? = some (some (.val d))) (hi : insOf ⟨env, st⟩ d = some (c, ks, vs)) (ht : tab.lookup c = some m) : Okx E (supM tab n ra) ⟨env, st⟩ Q ↔ Okx E ra ⟨env, st⟩ (fun ds s1 => Okx E (runM m n (d :: ds)) s1 Q) := by
  have e : supM tab n ra ⟨env, st⟩ = bnd ra (fun ds => runM m n (d :: ds)) ⟨env, st⟩ := by
    unfold supM
    simp only [h0, hi, ht]
  rw [← ok_bnd]
  unfold Okx
  rw [e]
/-! ### exceptions -/
end
end Dn
/-! Nu: numbers as texts; equal data. -/
namespace Dn
open PySem
/-! equal data -/
theorem eqv_str {x y : Str} : PyData.eqv (.str x) (.str y) = (x == y) := by simp [PyData.eqv]
/-! items of written tuples -/
/-! new answers -/
end Dn
/-! Pl7: kept exceptions answered; values of any kind. -/
namespace Dn
open PySem
section
variable {s : S} {Q : PV → S → Prop} {QF : Fl → S → Prop} {E : PV → S → Prop} {ca cb cv : M PV} {fa : M Fl} {i j : Nat} {env : Env} {st : List MO} {v : PV} {t : Str}
/-! texts of values -/
theorem ok_reprR (h : reprP v = some (.str t)) : Okx E (lft (reprP v)) s Q ↔ Q (.str t) s := by
  rw [ok_lft, h]
  simp
end
end Dn
/-! Pl8: plain answers: pairs of names in a for, enumerate, stars, own operators, == []. -/
namespace Dn
open PySem
section
variable {s : S} {Q : PV → S → Prop} {QL : List PV → S → Prop} {QF : Fl → S → Prop} {E : PV → S → Prop} {ca cb cv : M PV} {fa : M Fl} {ra : M (List PV)} {i j n : Nat} {env : Env} {st : List MO} {v : PV} {m : Fn} {ds : List PV}
theorem ok_loopU {is : List Nat} {r : M (List PV)} : Okx E (loopU r is fa) s QF ↔ Okx E r s (fun xs s' => Okx E (forU is fa xs) s' QF) := by unfold loopU; exact ok_bnd
theorem ok_enumM : Okx E (enumM ca) s QL ↔ Okx E ca s (fun d s' => ∃ xs, enumP d = some xs ∧ QL xs s') := by
  unfold enumM
  rw [ok_bnd]
  exact ⟨fun h => h.imp fun a s' q => ok_lft.mp q, fun h => h.imp fun a s' q => ok_lft.mpr q⟩
theorem en_L {xs : List PV} {R : List PV → Prop} : (∃ ys, enumP (.lst xs) = some ys ∧ R ys) ↔ R (enumL 0 xs) := ⟨fun ⟨_, e, h⟩ => by cases e; exact h, fun h => ⟨_, rfl, h⟩⟩
theorem en_T {xs : List PV} {R : List PV → Prop} : (∃ ys, enumP (.tup xs) = some ys ∧ R ys) ↔ R (enumL 0 xs) := ⟨fun ⟨_, e, h⟩ => by cases e; exact h, fun h => ⟨_, rfl, h⟩⟩
theorem ok_for2 {body : M Fl} {xs : List PV} {Q : Fl → S → Prop} (I : Nat → S → Prop) (h0 : I 0 s) (hs : ∀ (k : Nat) (x : PV) (s : S), xs[k]? = some x → I k s → ∃ a b, x = .tup [a, b] ∧ Okx E body ⟨(s.env.set i (some (.val a))).set j (some (.val b)), s.sto⟩ (fun fl s' => flK Q (I (k + 1)) s' fl)) (hd : ∀ s, I xs.length s → Q .nx s) : Okx E (forU [i, j] body xs) s Q := by
  have key : ∀ (ys : List PV) (k : Nat) (s : S), xs.drop k = ys → k + ys.length = xs.length → I k s → Okx E (forU [i, j] body ys) s Q := by
    intro ys
    induction ys with
    | nil =>
      intro k s e hl hI
      have hk : k = xs.length := by simpa using hl
      subst hk
      exact hd s hI
    | cons y ys ih =>
      intro k s e hl hI
      have hk : k < xs.length := by simp at hl; omega
      have e' := List.drop_eq_getElem_cons hk
      rw [e] at e'
      obtain ⟨e1, e2⟩ := List.cons.inj e'
      have hg : xs[k]? = some y := by rw [e1]; exact List.getElem?_eq_getElem hk
      obtain ⟨a, b, rfl, hb⟩ := hs k y s hg hI
      have e0 : setAll [i, j] [a, b] s = .ok .nx ⟨(s.env.set i (some (.val a))).set j (some (.val b)), s.sto⟩ := rfl
      rcases hb.two with ⟨fl, s', eb, q⟩ | ⟨z, s', eb, q⟩
      case' inr =>
        unfold Okx forU
        simp only [List.length_cons, List.length_nil, if_true, e0, eb]
        exact q
      unfold Okx forU
      simp only [List.length_cons, List.length_nil, if_true, e0]
      cases fl with
      | nx => simp only [eb]; exact ih (k + 1) s' e2.symm (by simp at hl; omega) q
      | ct => simp only [eb]; exact ih (k + 1) s' e2.symm (by simp at hl; omega) q
      | bk => simp only [eb]; exact q
      | rt d => simp only [eb]; exact q
  exact key xs 0 s rfl (by simp) h0
end
end Dn
/-! Pl9: plain answers: len of own instances. -/
namespace Dn
open PySem
/-! ### plain -/
end Dn
/-! Pt: plain answers of the rules of Tr1, Dt1 .. Dt5. -/
namespace Dn
open PySem
open L2 hiding bin
section
variable {E : PV → S → Prop} {EF : PV → List MO → Prop} {s : S} {Q : PV → S → Prop} {QL : List PV → S → Prop} {QF : Fl → S → Prop} {QB : Bool → S → Prop} {QK : List (L2.Key × PV) → S → Prop} {n i : Nat} {env : Env} {st : List MO} {ca cb cc cd ck cv : M PV} {tab : List (Str × Fn)} {xs : List PV} {v d a b : PV}
/-! ### a def's own handles dropped -/
theorem okF_fnF {np nn n : Nat} {body : Nat → M Fl} {ds : List PV} {Q : PV → List MO → Prop} (hl : ds.length = np)
    (h : Okx (fun e s => EF e s.sto) (body n) ⟨ds.map (fun d => some (SV.val d)) ++ List.replicate (nn - np) none, st⟩ (fun fl s => rtK Q s fl)) : OkFx EF (fnQ false np nn body n ds st) Q := okF_fn hl h
theorem okF_fnT {np nn n : Nat} {body : Nat → M Fl} {ds : List PV} {Q : PV → List MO → Prop} (hl : ds.length = np)
    (h : Okx (fun e s => EF e s.sto) (body n) ⟨ds.map (fun d => some (SV.val d)) ++ List.replicate (nn - np) none, st⟩ (fun fl s => rtK (fun d st' => Q (fin st st' d).1 (fin st st' d).2) s fl)) : OkFx EF (fnQ true np nn body n ds st) Q := by
  have h1 : OkFx EF (fnM np nn body n ds st) (fun d st' => Q (fin st st' d).1 (fin st st' d).2) := okF_fn hl h
  show OkFx EF (finR st (fnM np nn body n ds st)) Q
  revert h1
  cases fnM np nn body n ds st with
  | ok d st' => exact fun h => h
  | exc e st' => exact fun h => h
  | stk => exact fun h => h
theorem fin_same {st0 st : List MO} {d : PV} (h : st.length ≤ st0.length) : fin st0 st d = (d, st) := by
  unfold fin
  rw [if_pos h]
theorem fin_self {d : PV} : fin st st d = (d, st) := fin_same (Nat.le_refl _)
/-- nothing old has changed -/
theorem fin_app {more : List MO} {d : PV} (hm : more ≠ []) (h : (d.frz st.length (st ++ more)).cl st.length) : fin st (st ++ more) d = (d.frz st.length (st ++ more), st) := by
  unfold fin
  rw [if_neg (by
    rw [List.length_append]
    have : more.length ≠ 0 := fun z => hm (List.length_eq_zero_iff.mp z)
    omega), if_pos ⟨h, fun i mo hi e => .inl (by rwa [List.getElem?_append_left hi] at e)⟩, List.take_left]
/-- the old part may hold other values, with no new handle -/
theorem fin_cut {st0 st : List MO} {d : PV} (hl : st0.length < st.length) (h : (d.frz st0.length st).cl st0.length) (hs : Shut st0 st) : fin st0 st d = (d.frz st0.length st, st.take st0.length) := by
  unfold fin
  rw [if_neg (by omega), if_pos ⟨h, hs⟩]
/-! a value that names no handle at all -/
mutual
def PV.pl : PV → Bool
  | .hnd _ => false
  | .tup xs => PV.pls xs
  | .lst xs => PV.pls xs
  | .obj _ _ vs => PV.pls vs
  | .exn _ _ vs => PV.pls vs
  | .dct _ vs => PV.pls vs
  | _ => true
def PV.pls : List PV → Bool
  | [] => true
  | x :: xs => x.pl && PV.pls xs
end
theorem pls_iff : ∀ {xs : List PV}, PV.pls xs = true ↔ ∀ x ∈ xs, x.pl = true
  | [] => by simp [PV.pls]
  | x :: xs => by simp [PV.pls, pls_iff (xs := xs)]
mutual
theorem frz_pl {n : Nat} {st : List MO} : ∀ {d : PV}, d.pl = true → d.frz n st = d
  | .non, _ => by rw [PV.frz] <;> (intros; first | rfl | contradiction)
  | .bl _, _ => by rw [PV.frz] <;> (intros; first | rfl | contradiction)
  | .int _, _ => by rw [PV.frz] <;> (intros; first | rfl | contradiction)
  | .str _, _ => by rw [PV.frz] <;> (intros; first | rfl | contradiction)
  | .scr _, _ => by rw [PV.frz] <;> (intros; first | rfl | contradiction)
  | .dic _, _ => by rw [PV.frz] <;> (intros; first | rfl | contradiction)
  | .kt _, _ => by rw [PV.frz] <;> (intros; first | rfl | contradiction)
  | .exn _ _ _, _ => by rw [PV.frz] <;> (intros; first | rfl | contradiction)
  | .dct _ _, _ => by rw [PV.frz] <;> (intros; first | rfl | contradiction)
  | .hnd _, h => by cases h
  | .tup xs, h => by rw [PV.frz, frzs_pl (xs := xs) (by rw [PV.pl] at h; exact h)]
  | .lst xs, h => by rw [PV.frz, frzs_pl (xs := xs) (by rw [PV.pl] at h; exact h)]
  | .obj c ks xs, h => by rw [PV.frz, frzs_pl (xs := xs) (by rw [PV.pl] at h; exact h)]
theorem frzs_pl {n : Nat} {st : List MO} : ∀ {xs : List PV}, PV.pls xs = true → PV.frzs n st xs = xs
  | [], _ => rfl
  | x :: xs, h => by
    rw [PV.pls, Bool.and_eq_true] at h
    rw [PV.frzs, frz_pl h.1, frzs_pl h.2]
end
mutual
theorem cl_pl {n : Nat} : ∀ {d : PV}, d.pl = true → d.cl n
  | .non, _ => trivial
  | .bl _, _ => trivial
  | .int _, _ => trivial
  | .str _, _ => trivial
  | .scr _, _ => trivial
  | .dic _, _ => trivial
  | .kt _, _ => trivial
  | .exn _ _ vs, h => by rw [PV.cl]; exact cls_pl (by rw [PV.pl] at h; exact h)
  | .dct _ vs, h => by rw [PV.cl]; exact cls_pl (by rw [PV.pl] at h; exact h)
  | .hnd _, h => by cases h
  | .tup xs, h => by rw [PV.cl]; exact cls_pl (by rw [PV.pl] at h; exact h)
  | .lst xs, h => by rw [PV.cl]; exact cls_pl (by rw [PV.pl] at h; exact h)
  | .obj c ks xs, h => by rw [PV.cl]; exact cls_pl (by rw [PV.pl] at h; exact h)
theorem cls_pl {n : Nat} : ∀ {xs : List PV}, PV.pls xs = true → PV.cls n xs
  | [], _ => trivial
  | x :: xs, h => by
    rw [PV.pls, Bool.and_eq_true] at h
    exact ⟨cl_pl h.1, cls_pl h.2⟩
end
theorem fin_pl {more : List MO} {d : PV} (h : d.pl = true) : fin st (st ++ more) d = (d, st) := by
  cases more with
  | nil => rw [List.append_nil, fin_self]
  | cons m r => rw [fin_app (by simp) (by rw [frz_pl h]; exact cl_pl h), frz_pl h]
/-- an own dict of such values -/
theorem fin_dic {more : List MO} {kvs : List (L2.Key × PV)} {j : Nat} (hj : more[j]? = some (.dic kvs)) (h : PV.pls (kvs.map (·.2)) = true) : fin st (st ++ more) (.hnd (st.length + j)) = (.dct (kvs.map (·.1)) (kvs.map (·.2)), st) := by
  have e1 : (st ++ more)[st.length + j]? = some (.dic kvs) := by
    rw [List.getElem?_append_right (Nat.le_add_right _ _), Nat.add_sub_cancel_left]
    exact hj
  have e : (PV.hnd (st.length + j)).frz st.length (st ++ more) = .dct (kvs.map (·.1)) (kvs.map (·.2)) := by
    rw [PV.frz, if_pos (Nat.le_add_right _ _), e1]
  rw [fin_app (fun z => by rw [z] at hj; cases hj) (by rw [e, PV.cl]; exact cls_pl h), e]
/-! ### items -/
theorem ok_itemsDM : Okx E (itemsDM ca) s QL ↔ Okx E ca s (fun d s' => ∃ xs, itemsD d = some xs ∧ QL xs s') := by
  unfold itemsDM
  rw [ok_bnd]
  simp only [ok_lft]
theorem itd_L {R : List PV → Prop} : (∃ z, itemsD (.lst xs) = some z ∧ R z) ↔ R xs := by simp [itemsD]
theorem itd_T {R : List PV → Prop} : (∃ z, itemsD (.tup xs) = some z ∧ R z) ↔ R xs := by simp [itemsD]
theorem itd_D {ks : List L2.Key} {R : List PV → Prop} : (∃ z, itemsD (.dct ks xs) = some z ∧ R z) ↔ R (ks.map keyV) := by simp [itemsD]
/-! ### a[b] -/
theorem ok_subL {k : Int} : Okx E (subO tab n (.lst xs) (.int k)) s Q ↔ ∃ v, L2.atI xs k = some v ∧ Q v s := ok_ixL
theorem ok_subT {k : Int} : Okx E (subO tab n (.tup xs) (.int k)) s Q ↔ ∃ v, L2.atI xs k = some v ∧ Q v s := ok_ixT
theorem ok_subD {kvs : List (L2.Key × PV)} {k : L2.Key} (h : dicP s.sto a = some kvs) (hi : insOf s a = none) (hb : keyP b = some k) (hv : valP kvs k = some v) : Okx E (subO tab n a b) s Q ↔ Q v s := by
  have e : dget s.sto a b = some (some v) := by
    unfold dget
    cases b <;> first | cases hb; done | (simp only [h, hb, hv])
  unfold subO Okx
  simp only [hi, e]
theorem ok_subC {ks : List L2.Key} {x : Str} {v : PV} (hv : valP (ks.zip xs) (.inr x) = some v) : Okx E (subO tab n (.dct ks xs) (.str x)) s Q ↔ Q v s := ok_subD (k := .inr x) rfl rfl rfl hv
theorem ok_subH {m : Nat} {kvs : List (L2.Key × PV)} {x : Str} {v : PV} (h : s.sto[m]? = some (.dic kvs)) (hv : valP kvs (.inr x) = some v) : Okx E (subO tab n (.hnd m) (.str x)) s Q ↔ Q v s :=
  ok_subD (kvs := kvs) (k := .inr x) (by unfold dicP; simp only [h]) (by unfold insOf; simp only [h]) rfl hv
/-! ### a in b -/
theorem ok_inD {neg : Bool} {kvs : List (L2.Key × PV)} {k : L2.Key} (h : dicP s.sto b = some kvs) (hi : insOf s b = none) (ha : keyP a = some k) : Okx E (inO tab n neg a b) s Q ↔ Q (.bl ((valP kvs k).isSome != neg)) s := by
  have e : dget s.sto b a = some (valP kvs k) := by
    unfold dget
    cases a <;> first | cases ha; done | (simp only [h, ha])
  unfold inO Okx
  simp only [hi, e]
theorem ok_inH {neg : Bool} {m : Nat} {kvs : List (L2.Key × PV)} {x : Str} (h : s.sto[m]? = some (.dic kvs)) : Okx E (inO tab n neg (.str x) (.hnd m)) s Q ↔ Q (.bl ((valP kvs (.inr x)).isSome != neg)) s :=
  ok_inD (kvs := kvs) (k := .inr x) (by unfold dicP; simp only [h]) (by unfold insOf; simp only [h]) rfl
theorem ok_inTS {neg : Bool} {x : Str} {ss : List Str} : Okx E (inO tab n neg (.str x) (.tup (ss.map .str))) s Q ↔ Q (.bl (if neg then !decide (x ∈ ss) else decide (x ∈ ss))) s := ok_inT
theorem ok_inL {neg : Bool} {x : Str} : Okx E (inO tab n neg (.str x) (.lst xs)) s Q ↔ Okx E (lft (inP neg (.str x) (.lst xs))) s Q := Iff.rfl
/-! ### dicts -/
theorem ok_dcL {cs : M (List PV)} {vs : List Nat} {cond : M Bool} : Okx E (dcL cs i vs cond ck cv) s QK ↔ Okx E cs s (fun xs s1 => Okx E (dcGo i vs cond ck cv xs []) { s1 with env := wip s1.env vs } QK) := by
  unfold dcL
  rw [ok_bnd]
  rfl
theorem dcGo_map {α : Type} {vs : List Nat} (g : α → PV) (fk : α → L2.Key) (fv : α → PV) (hw : ∀ x : PV, wip (env.set i (some (.val x))) vs = env) : ∀ (as : List α) (acc : List (L2.Key × PV)),
    (∀ a ∈ as, ∃ y, ck ⟨env.set i (some (.val (g a))), st⟩ = .ok y ⟨env.set i (some (.val (g a))), st⟩ ∧ keyP y = some (fk a)) → (∀ a ∈ as, cv ⟨env.set i (some (.val (g a))), st⟩ = .ok (fv a) ⟨env.set i (some (.val (g a))), st⟩) →
    (acc.length + as.length ≤ sizeLine) → (∀ (acc : List (L2.Key × PV)) k v, (putP acc k v).length ≤ acc.length + 1) →
    dcGo i vs (ret true) ck cv (as.map g) acc ⟨env, st⟩ = .ok (as.foldl (fun acc a => putP acc (fk a) (fv a)) acc) ⟨env, st⟩
  | [], acc, _, _, _, _ => rfl
  | a :: as, acc, h1, h2, h3, h4 => by
    obtain ⟨y, e1, e2⟩ := h1 a List.mem_cons_self
    have e3 := h2 a List.mem_cons_self
    have hl : acc.length < sizeLine := by
      rw [List.length_cons] at h3
      omega
    rw [List.map_cons, List.foldl_cons]
    have ih := dcGo_map g fk fv hw as (putP acc (fk a) (fv a)) (fun b hb => h1 b (List.mem_cons_of_mem _ hb)) (fun b hb => h2 b (List.mem_cons_of_mem _ hb)) (by
      have := h4 acc (fk a) (fv a)
      rw [List.length_cons] at h3
      omega) h4
    rw [← ih]
    rw [dcGo]
    dsimp only [ret]
    rw [e1]
    dsimp only
    rw [e3]
    dsimp only
    rw [e2]
    dsimp only
    rw [if_pos hl, hw]
theorem ok_hndM {c : M (List (L2.Key × PV))} : Okx E (hndM c) s Q ↔ Okx E c s (fun kvs s1 => Q (.hnd s1.sto.length) ⟨s1.env, s1.sto ++ [.dic kvs]⟩) := by
  unfold hndM
  rw [ok_bnd]
  rfl
def dputK (v : PV) (s : S) (QF : Fl → S → Prop) (a b : PV) : Prop := match a with
  | .hnd n => (match s.sto[n]? with
    | some (.dic kvs) => (match keyP b with
      | some k => kvs.length < sizeLine ∧ QF .nx { s with sto := s.sto.set n (.dic (putP kvs k v)) }
      | none => False)
    | some (.dtt kvs) => (match b with
      | .kt ks => kvs.length < sizeLine ∧ QF .nx { s with sto := s.sto.set n (.dtt (putP kvs ks v)) }
      | _ => False)
    | _ => False)
  | _ => False
theorem ok_dputM : Okx E (dputM cd ck cv) s QF ↔ Okx E cv s (fun v s1 => Okx E cd s1 (fun a s2 => Okx E ck s2 (fun b s3 => dputK v s3 QF a b))) := by
  unfold dputM
  rw [ok_bnd]
  simp only [ok_bnd]
  have e : ∀ (v a b : PV) (s : S), Okx E (fun s : S => match a with
      | .hnd n => (match s.sto[n]? with
        | some (.dic kvs) => (match keyP b with
          | some k => if kvs.length < sizeLine then Res.ok Fl.nx { s with sto := s.sto.set n (.dic (putP kvs k v)) } else .stk
          | none => .stk)
        | some (.dtt kvs) => (match b with
          | .kt ks => if kvs.length < sizeLine then .ok .nx { s with sto := s.sto.set n (.dtt (putP kvs ks v)) } else .stk
          | _ => .stk)
        | _ => .stk)
      | _ => .stk) s QF ↔ dputK v s QF a b := by
    intro v a b s
    unfold dputK Okx
    cases a <;> try exact Iff.rfl
    rename_i m
    cases h : s.sto[m]? with
    | none => simp only [h]
    | some mo =>
      cases mo <;> simp only [h]
      · rename_i kvs
        cases keyP b with
        | none => exact Iff.rfl
        | some k =>
          dsimp only
          by_cases hl : kvs.length < sizeLine
          · rw [if_pos hl]; exact ⟨fun q => ⟨hl, q⟩, fun q => q.2⟩
          · rw [if_neg hl]; exact ⟨fun q => q.elim, fun q => hl q.1⟩
      · rename_i kvs
        cases b <;> try exact Iff.rfl
        dsimp only
        by_cases hl : kvs.length < sizeLine
        · rw [if_pos hl]; exact ⟨fun q => ⟨hl, q⟩, fun q => q.2⟩
        · rw [if_neg hl]; exact ⟨fun q => q.elim, fun q => hl q.1⟩
  exact ⟨fun h => h.imp fun v s1 q => q.imp fun a s2 q => q.imp fun b s3 q => (e v a b s3).mp q, fun h => h.imp fun v s1 q => q.imp fun a s2 q => q.imp fun b s3 q => (e v a b s3).mpr q⟩
theorem dputK_dic {m : Nat} {kvs : List (L2.Key × PV)} {x : Str} (h : s.sto[m]? = some (.dic kvs)) : dputK v s QF (.hnd m) (.str x) ↔ kvs.length < sizeLine ∧ QF .nx ⟨s.env, s.sto.set m (.dic (putP kvs (.inr x) v))⟩ := by
  unfold dputK
  simp only [h, keyP]
/-! ### sorted, min, len -/
theorem txtKeys_map : ∀ {zs : List Str}, txtKeys (zs.map .inr) = some zs
  | [] => rfl
  | z :: zs => by
    show (txtKeys (zs.map .inr)).map (z :: ·) = _
    rw [txtKeys_map]
    rfl
theorem ok_sortD {kvs : List (L2.Key × PV)} {zs : List Str} (h : dicP s.sto a = some kvs) (hk : kvs.map (·.1) = zs.map .inr) (hl : zs.length < 64) : Okx E (fSortU a) s QL ↔ QL ((sortS zs).map .str) s := by
  unfold fSortU Okx
  simp only [h, hk, txtKeys_map, if_pos hl]
theorem ok_sortUL {ss : List Str} : Okx E (fSortU (.lst (ss.map .str))) s QL ↔ QL ((sortS ss).map .str) s := ok_sortL
theorem ok_lenUL : Okx E (lenU tab n (.lst xs)) s Q ↔ Q (.int xs.length) s := ok_lenL
theorem ok_lenUT : Okx E (lenU tab n (.tup xs)) s Q ↔ Q (.int xs.length) s := ok_lenT
theorem ok_lenUD {kvs : List (L2.Key × PV)} (h : dicP s.sto a = some kvs) (hi : insOf s a = none) : Okx E (lenU tab n a) s Q ↔ Q (.int kvs.length) s := by
  unfold lenU Okx
  simp only [hi, h]
theorem ok_isiT {nms : List String} {t : String} {r : Bool} (h : tyS s d = some t) (hk : kitBs t nms = some r) : Okx E (isiTM nms d) s Q ↔ Q (.bl r) s := by
  unfold isiTM Okx
  simp only [h, hk]
theorem ok_dict {kvs : List (L2.Key × PV)} (h : dicP s.sto a = some kvs) : Okx E (fDict a) s QK ↔ QK kvs s := by
  unfold fDict Okx
  simp only [h]
/-! ### lists -/
/-! ### < of ints or texts -/
theorem ok_ordU {f : Int → Int → Bool} {g : Str → Str → Bool} {a b : Int} : Okx E (lft (ordU f g (.int a) (.int b))) s Q ↔ Q (.bl (f a b)) s := Iff.rfl
theorem ok_ordS {f : Int → Int → Bool} {g : Str → Str → Bool} {a b : Str} : Okx E (lft (ordU f g (.str a) (.str b))) s Q ↔ Q (.bl (g a b)) s := Iff.rfl
/-! ### instances made -/
theorem ok_makeT {c : Str} {mf : Fn} {ra : M (List PV)} (h : Okx E ra s (fun ds s1 => ∃ ks vs more, mf n (.hnd s1.sto.length :: ds) (s1.sto ++ [.ins c [] [], .own s1.sto.length]) = .ok .non (s1.sto ++ (.ins c ks vs :: .own s1.sto.length :: more)) ∧
      ((PV.obj c ks vs).frz s1.sto.length (s1.sto ++ (.gone :: .gone :: more))).cl s1.sto.length ∧ Q ((PV.obj c ks vs).frz s1.sto.length (s1.sto ++ (.gone :: .gone :: more))) s1)) : Okx E (makeT c mf n ra) s Q := by
  unfold makeT
  rw [ok_bnd]
  refine h.imp fun ds s1 q => ?_
  obtain ⟨ks, vs, more, e, hc, q⟩ := q
  obtain ⟨env1, st1⟩ := s1
  dsimp only at e hc q ⊢
  have g0 : (st1 ++ (MO.ins c ks vs :: .own st1.length :: more))[st1.length]? = some (.ins c ks vs) := by simp
  have g1 : (st1 ++ (MO.ins c ks vs :: .own st1.length :: more))[st1.length + 1]? = some (.own st1.length) := by
    rw [List.getElem?_append_right (Nat.le_add_right _ _), Nat.add_sub_cancel_left]
    rfl
  have e2 : ((st1 ++ (MO.ins c ks vs :: .own st1.length :: more)).set st1.length .gone).set (st1.length + 1) .gone = st1 ++ (.gone :: .gone :: more) := by
    rw [List.set_append_right _ _ (Nat.le_refl _), Nat.sub_self, List.set_append_right _ _ (Nat.le_add_right _ _), Nat.add_sub_cancel_left]
    rfl
  unfold trimE Okx
  simp only [e, g0, g1, if_true, e2]
  rw [if_neg (by rw [List.length_append, List.length_cons]; omega), if_pos ⟨rfl, hc, fun i mo hi e => .inl (by rwa [List.getElem?_append_left hi] at e)⟩, List.take_left]
  exact q
end
end Dn
/-! C1: the pen of the laws from k26 on. -/
namespace Lw
open PySem Dn
open L2 hiding bin
abbrev pen (cells : List Int) (b l : Int) : List (L2.Key × PV) := penD "cells" "spot" "rest" cells b l
theorem K3 : Keys3 "cells" "spot" "rest" := ⟨by decide +kernel, by decide +kernel, by decide +kernel⟩
theorem pc {cells b l} : valP (penD "cells" "spot" "rest" cells b l) (.inr "cells") = some (.lst (cells.map .int)) := pen_c
theorem pb {cells b l} : valP (penD "cells" "spot" "rest" cells b l) (.inr "spot") = some (.int b) := pen_b K3
theorem pl {cells b l} : valP (penD "cells" "spot" "rest" cells b l) (.inr "rest") = some (.int l) := pen_l K3
theorem ppb {cells b l v} : putP (penD "cells" "spot" "rest" cells b l) (.inr "spot") (.int v) = penD "cells" "spot" "rest" cells v l := pen_put_b K3
theorem ppl {cells b l v} : putP (penD "cells" "spot" "rest" cells b l) (.inr "rest") (.int v) = penD "cells" "spot" "rest" cells b v := pen_put_l K3
theorem plen {kc kb kl : Str} {cells b l} : ((penD kc kb kl cells b l).length < sizeLine) = True := by rw [sizeLine_eq]; simp [penD]
local macro_rules | `(tactic| walk_at "st") => `(tactic| try simp only [ok_ret, ok_bnd, ok_bin, ok_binL, ok_var, varK_val, varK_own, ok_brw, brwK_some, pv_val, pv_own, ok_asB, asBK_bl, ok_andT, ok_orT, ok_notT, ok_iteT, ok_andV, ok_notV, blK_bl,
  ok_argN, ok_argC, ok_fits, ok_tupM, ok_lstM, ok_parN, ok_parS, intK_int, ok_slM, ok_joinM, strK_str, ok_itemsM, ok_rngM, ok_seqM, seqK_nx, seqK_rt, seqK_bk, seqK_ct, ok_ifM, ok_retM, ok_dropM, ok_skipM, ok_asgM, ok_asgO, ok_par2, ok_par2VO, ok_par2OO, ok_par3,
  ok_callM, rtK_rt, rtK_nx, ok_loopM, ok_lcM, ok_dispM, ok_prsN, ok_prsC, ok_hget0, getK_some, ok_hputM, putK0, pc, pb, pl, ppb, ppl, plen, ok_add, ok_addS, ok_addT, ok_addL, ok_sub, ok_mul, ok_ixL, ok_ixT, ok_unp, unpK_tup, ok_set0, ok_setC, ok_app, ok_pop, ok_chk', chkK_some, flK_nx, flK_ct, flK_bk, flK_rt, sl_L, sl_T, sl_S, it_L, it_T, ok_sortL, ok_sortT, wip, ok_div, ok_mod, ok_pow, ok_rep, ok_ord, ok_fInt, ok_fAbs, ok_fNeg, ok_lenL, ok_lenT, ok_lenS, ok_fListL, ok_fListT, ok_fTupleL, ok_fTupleT, ok_eqI, ok_eqB, ok_eqS,
  okF_ok, okF_exc, ok_runM, ok_appA, ok_len1, ok_chain, isNonB_non, isNonB_int, isNonB_bl, isNonB_str, isNonB_tup, isNonB_lst, isNonB_obj, ok_isN, ok_max, ok_min, isi_int_int, isi_int_bl, isi_int_non, isi_int_str, isi_int_tup, isi_int_lst, isi_bool_int, isi_bool_bl, isi_str_str, isi_str_int, isi_str_bl, isi_str_non, isi_str_tup, isi_str_lst, isi_tuple_tup, isi_tuple_int, isi_tuple_bl, isi_tuple_non, isi_tuple_str, isi_tuple_lst,
  ok_conM, ok_fputM, fputK_new, conV_new, ok_methM,
  List.map_cons, List.map_nil, List.replicate_succ, List.replicate_zero, List.cons_append, List.nil_append, List.append_nil, List.getElem?_cons_zero, List.getElem?_cons_succ, List.set_cons_zero, List.set_cons_succ, Nat.reduceSub, decide_eq_true_eq, if_true, if_false, Bool.false_eq_true, Bool.not_true, Bool.not_false, beq_self_eq_true, Bool.true_eq_false, bne_self_eq_false, Bool.bne_true, Bool.bne_false, Nat.zero_add, Nat.reduceAdd, true_and, and_true, reduceCtorEq, List.length_cons, List.length_nil])
theorem sp_pen {n : Nat} {ns : List Int} {st : List MO} {Q : PV → List MO → Prop} (h : Q (.hnd st.length) (st ++ [.dic (pen (cutI ns none (some 63)) 0 0)])) : OkF (m_law_pen n [.scr ns] st) Q := by
  unfold m_law_pen
  refine okF_fnF rfl ?_
  unfold b_law_pen
  walk_at "st"
  refine ⟨_, rfl, ?_⟩
  walk_at "st"
  rw [pen_new K3]
  exact ⟨by decide, h⟩
/-- a pen at the bottom of the store, used at most B times; g stands above it -/
def Pn (cells : List Int) (B : Int) (g st : List MO) : Prop := ∃ b l, st = .dic (pen cells b l) :: g ∧ 0 ≤ b ∧ b ≤ B ∧ 0 ≤ l
theorem Pn.mono {cells : List Int} {B B' : Int} {g st : List MO} (h : Pn cells B g st) (hb : B ≤ B') : Pn cells B' g st := by
  obtain ⟨b, l, e, h1, h2, h3⟩ := h
  exact ⟨b, l, e, h1, Int.le_trans h2 hb, h3⟩
theorem Pn.up {cells : List Int} {B : Int} {g st more : List MO} (h : Pn cells B g st) : Pn cells B (g ++ more) (st ++ more) := by
  obtain ⟨b, l, rfl, h1, h2, h3⟩ := h
  exact ⟨b, l, rfl, h1, h2, h3⟩
theorem atI_cellM {cells : List Int} {k : Int} (h0 : 0 ≤ k) (h1 : k < cells.length) : ∃ c : Int, L2.atI (cells.map PV.int) k = some (.int c) ∧ c ∈ cells := by
  obtain ⟨v, e, hm⟩ := atI_in (ds := cells.map PV.int) h0 (by simpa using h1)
  obtain ⟨c, hc, rfl⟩ := List.mem_map.mp hm
  exact ⟨c, e, hc⟩
theorem cpow18 : L2.CPow 10 18 := by decide +kernel
theorem ok_mulV {a b : Int} {s : S} {E : PV → S → Prop} {Q : PV → S → Prop} : Okx E (lft (mulVP (.int a) (.int b))) s Q ↔ CMulV a b ∧ Q (.int (a * b)) s := by
  rw [ok_lft]
  unfold mulVP
  by_cases h : CMulV a b
  · simp [h]
  · simp [h]
theorem cmulV1 {a b : Int} (ha : -1267650600228229401496703205376 ≤ a ∧ a ≤ 1267650600228229401496703205376) (hb : -1267650600228229401496703205376 ≤ b ∧ b ≤ 1267650600228229401496703205376) : CMulV a b := by
  have h1 : a.natAbs.log2 < 200 := log_lt (p := 200) (Nat.lt_of_le_of_lt (show a.natAbs ≤ 1267650600228229401496703205376 by omega) (by decide)) (by decide)
  have h2 : b.natAbs.log2 < 200 := log_lt (p := 200) (Nat.lt_of_le_of_lt (show b.natAbs ≤ 1267650600228229401496703205376 by omega) (by decide)) (by decide)
  show a.natAbs.log2 + b.natAbs.log2 < 100000000
  omega
/-- the cells are of at most so many bits -/
def Bt (cells : List Int) : Prop := ∀ z ∈ cells, z.natAbs.log2 ≤ 1048576
theorem nat_log {z : Nat} (h : z.log2 ≤ 1048576) : z < 2 ^ 1048577 := by
  have := Nat.lt_log2_self (n := z)
  exact Nat.lt_of_lt_of_le this (Nat.pow_le_pow_right (by decide) (by omega))
theorem cmulC {c b d : Int} (hc : c.natAbs.log2 ≤ 1048576) (hb : 0 ≤ b ∧ b ≤ 1267650600228229401496703205376) (hd : d.natAbs < 2 ^ 200) : CMulV (c + b) d := by
  have h1 := nat_log hc
  have h3 := log_lt hd (by decide)
  have h4 : (c + b).natAbs < 2 ^ (1048577 + 1) := by
    have e : (2 : Nat) ^ (1048577 + 1) = 2 ^ 1048577 + 2 ^ 1048577 := (Nat.pow_succ ..).trans (Nat.mul_two _)
    have e2 : 1267650600228229401496703205376 ≤ 2 ^ 1048577 := Nat.le_trans (show 1267650600228229401496703205376 ≤ 2 ^ 100 by decide) (Nat.pow_le_pow_right (by decide) (by decide))
    rw [e]
    revert h1 e2
    generalize (2 : Nat) ^ 1048577 = w
    intro h1 e2
    clear e
    omega
  have h2 := log_lt h4 (by decide)
  show (c + b).natAbs.log2 + d.natAbs.log2 < 100000000
  omega
theorem mix83 {c b : Int} (hc : c.natAbs.log2 ≤ 1048576) (hb : 0 ≤ b) (hb2 : b ≤ 1000000000) : CMulV (c + 83 * b * b + 41 * b + 7) 2862933555777941757 := by
  have hbb : b * b ≤ 1000000000 * 1000000000 := Int.mul_le_mul hb2 hb2 hb (by decide)
  have hbb0 : 0 ≤ b * b := Int.mul_nonneg hb hb
  have h83 : 83 * b * b = 83 * (b * b) := Int.mul_assoc ..
  rw [show c + 83 * b * b + 41 * b + 7 = c + (83 * (b * b) + 41 * b + 7) by omega]
  exact cmulC hc (by omega) (by decide)
theorem cmm (x : Int) : CMulV (x % 18446744073709551533) (x % 18446744073709551533 + 1181783497) := by
  have := Int.emod_nonneg x (show (18446744073709551533 : Int) ≠ 0 by decide)
  have := Int.emod_lt_of_pos x (show (0 : Int) < 18446744073709551533 by decide)
  exact cmulV1 (by omega) (by omega)
theorem mixQ {c b k : Int} {Z : Prop} (hc : c.natAbs.log2 ≤ 1048576) (hb : 0 ≤ b) (hb2 : b ≤ 1000000000) (hk : 0 < k ∧ k ≤ 1267650600228229401496703205376) (hz : Z) {y x : Int} : CMulV 83 b ∧ CMulV (83 * b) b ∧ CMulV 41 b ∧ CMulV (c + 83 * b * b + 41 * b + 7) 2862933555777941757 ∧ CMulV 3037000493 (b + 1) ∧ 0 < (18446744073709551533 : Int) ∧ CMulV (x % 18446744073709551533) (x % 18446744073709551533 + 1181783497) ∧ 0 < (18446744073709551533 : Int) ∧ L2.CDivW y 4294967291 ∧ 0 < k ∧ Z :=
  ⟨cmulV1 (by decide) (by omega), cmulV1 (by omega) (by omega), cmulV1 (by decide) (by omega), mix83 hc hb hb2, cmulV1 (by decide) (by omega), by decide, cmm _, by decide, cdiv100 (by decide) (by decide), hk.1, hz⟩
local macro_rules | `(tactic| walk_at "st") => `(tactic| try simp only [ok_ret, ok_bnd, ok_bin, ok_binL, ok_var, varK_val, varK_own, ok_brw, brwK_some, pv_val, pv_own, ok_asB, asBK_bl, ok_andT, ok_orT, ok_notT, ok_iteT, ok_andV, ok_notV, blK_bl,
  ok_argN, ok_argC, ok_fits, ok_tupM, ok_lstM, ok_parN, ok_parS, intK_int, ok_slM, ok_joinM, strK_str, ok_itemsM, ok_rngM, ok_seqM, seqK_nx, seqK_rt, seqK_bk, seqK_ct, ok_ifM, ok_retM, ok_dropM, ok_skipM, ok_asgM, ok_asgO, ok_par2, ok_par2VO, ok_par2OO, ok_par3,
  ok_callM, rtK_rt, rtK_nx, ok_loopM, ok_lcM, ok_dispM, ok_prsN, ok_prsC, ok_hget0, getK_some, ok_hputM, putK0, pc, pb, pl, ppb, ppl, plen, ok_add, ok_addS, ok_addT, ok_addL, ok_sub, ok_mul, ok_ixL, ok_ixT, ok_unp, unpK_tup, ok_set0, ok_setC, ok_app, ok_pop, ok_chk', chkK_some, flK_nx, flK_ct, flK_bk, flK_rt, sl_L, sl_T, sl_S, it_L, it_T, ok_sortL, ok_sortT, wip, ok_div, ok_mod, ok_pow, ok_rep, ok_ord, ok_fInt, ok_fAbs, ok_fNeg, ok_lenL, ok_lenT, ok_lenS, ok_fListL, ok_fListT, ok_fTupleL, ok_fTupleT, ok_eqI, ok_eqB, ok_eqS,
  okF_ok, okF_exc, ok_runM, ok_appA, ok_len1, ok_chain, isNonB_non, isNonB_int, isNonB_bl, isNonB_str, isNonB_tup, isNonB_lst, isNonB_obj, ok_isN, ok_max, ok_min, isi_int_int, isi_int_bl, isi_int_non, isi_int_str, isi_int_tup, isi_int_lst, isi_bool_int, isi_bool_bl, isi_str_str, isi_str_int, isi_str_bl, isi_str_non, isi_str_tup, isi_str_lst, isi_tuple_tup, isi_tuple_int, isi_tuple_bl, isi_tuple_non, isi_tuple_str, isi_tuple_lst,
  ok_conM, ok_fputM, fputK_new, conV_new, ok_methM,
  List.map_cons, List.map_nil, List.replicate_succ, List.replicate_zero, List.cons_append, List.nil_append, List.append_nil, List.getElem?_cons_zero, List.getElem?_cons_succ, List.set_cons_zero, List.set_cons_succ, Nat.reduceSub, decide_eq_true_eq, if_true, if_false, Bool.false_eq_true, Bool.not_true, Bool.not_false, beq_self_eq_true, Bool.true_eq_false, bne_self_eq_false, Bool.bne_true, Bool.bne_false, Nat.zero_add, Nat.reduceAdd, true_and, and_true, reduceCtorEq, List.length_cons, List.length_nil, ok_mulV])
local macro_rules | `(tactic| walk_at "sv") => `(tactic| repeat' first | exact True.intro | with_reducible rfl | omega | exact cdiv100 (by omega) (by omega) | exact cmul100 (by omega) (by omega) | (show L2.CPow _ _; decide +kernel) | apply And.intro)
set_option maxHeartbeats 4000000 in
theorem sp_draw {n : Nat} {k B : Int} {cells : List Int} {g st : List MO} {Q : PV → List MO → Prop} (hbt : Bt cells) (hp : Pn cells B g st) (hk : 0 < k ∧ k ≤ 1267650600228229401496703205376) (hB : B < 1000000000)
    (h : ∀ r st', 0 ≤ r → r < k → Pn cells (B + 1) g st' → Q (.int r) st') : OkF (m_law_draw n [.hnd 0, .int k] st) Q := by
  obtain ⟨b, l, rfl, hb, hb2, hl⟩ := hp
  have hz : sizeLine = 16777216 := sizeLine_eq
  have hr : ∀ x : Int, 0 ≤ x % k ∧ x % k < k := fun x => ⟨Int.emod_nonneg _ (by omega), Int.emod_lt_of_pos _ hk.1⟩
  have h := fun (x b' l' : Int) (h1 : 0 ≤ b') (h2 : b' ≤ B + 1) (h3 : 0 ≤ l') => h (x % k) (.dic (pen cells b' l') :: g) (hr x).1 (hr x).2 ⟨b', l', rfl, h1, h2, h3⟩
  unfold m_law_draw
  refine okF_fnF rfl ?_
  unfold b_law_draw
  walk_at "st"
  split
  · rename_i hl0
    walk_at "sv"
    exact h _ _ _ (by omega) (by omega) (Int.ediv_nonneg (by omega) (by omega))
  · walk_at "sv"
    rw [ok_eqNil (toDs_ints _) (shaped_ints _)]
    walk_at "st"
    split
    case' isTrue =>
      rename_i hne
      have hlen : 0 < (cells.map PV.int).length := by
        cases cells with
        | nil => simp at hne
        | cons => simp
      obtain ⟨c, hc, hcm⟩ := atI_cellM (cells := cells) (k := b % ((cells.map PV.int).length : Int)) (Int.emod_nonneg _ (by omega)) (by rw [← List.length_map (f := PV.int)]; exact Int.emod_lt_of_pos _ (by omega))
      have hcb := hbt c hcm
      refine ⟨by omega, _, hc, ?_⟩
    case' isFalse =>
      rename_i hne
      have hcb : (0 : Int).natAbs.log2 ≤ 1048576 := by decide
      have hlen : ¬ b < ((cells.map PV.int).length : Int) := by
        cases cells with
        | nil => simp; omega
        | cons => simp at hne
    all_goals
      walk_at "st"
    case isFalse.right.isFalse =>
      rw [if_neg hlen]
      exact mixQ hcb hb (by omega) hk (h _ _ _ (by omega) (by omega) hl)
    case isFalse.right.isTrue =>
      generalize (if c < 0 then -c else c) = ac
      split
      · refine ⟨cpow18, ?_⟩
        split
        · exact ⟨cpow18, cdiv100 (by omega) (by omega), cpow18, by omega, h _ _ _ (by omega) (by omega) (Int.ediv_nonneg (by omega) (by omega))⟩
        · exact mixQ hcb hb (by omega) hk (h _ _ _ (by omega) (by omega) hl)
      · exact mixQ hcb hb (by omega) hk (h _ _ _ (by omega) (by omega) hl)
set_option maxHeartbeats 4000000 in
theorem sp_pickL {n : Nat} {B : Int} {cells : List Int} {g st : List MO} {xs : List PV} {Q : PV → List MO → Prop} (hbt : Bt cells) (hp : Pn cells B g st) (hx : 0 < xs.length ∧ xs.length ≤ 1000000) (hB : B < 1000000000)
    (h : ∀ v st', v ∈ xs → Pn cells (B + 1) g st' → Q v st') : OkF (m_law_pick n [.hnd 0, .lst xs] st) Q := by
  unfold m_law_pick
  refine okF_fnF rfl ?_
  unfold b_law_pick
  walk_at "st"
  refine sp_draw hbt hp (by omega) hB fun r st' h0 h1 hp' => ?_
  walk_at "st"
  obtain ⟨v, e, hm⟩ := atI_in h0 h1
  exact ⟨v, e, h v st' hm hp'⟩
set_option maxHeartbeats 4000000 in
theorem sp_pickS {n : Nat} {B : Int} {cells : List Int} {g st : List MO} {x : Str} {Q : PV → List MO → Prop} (hbt : Bt cells) (hp : Pn cells B g st) (hx : 0 < x.length ∧ x.length ≤ 1000000) (hB : B < 1000000000)
    (h : ∀ c st', c ∈ x.cps.toList → Pn cells (B + 1) g st' → Q (.str ⟨#[c]⟩) st') : OkF (m_law_pick n [.hnd 0, .str x] st) Q := by
  have hs : x.length ≤ sizeLine := by rw [sizeLine_eq]; omega
  unfold m_law_pick
  refine okF_fnF rfl ?_
  unfold b_law_pick
  walk_at "st"
  refine ⟨hs, ?_⟩
  refine sp_draw hbt hp (by omega) hB fun r st' h0 h1 hp' => ?_
  rw [ok_ixS hs]
  have hl : x.cps.toList.length = x.length := by simp [Str.length]
  obtain ⟨c, e, hm⟩ := atI_in (ds := x.cps.toList) h0 (by rw [hl]; exact h1)
  exact ⟨c, e, h c st' hm hp'⟩
end Lw
/-! N2: names, plain (with the pen of the law's family). -/
namespace Lw
open PySem Dn
open L2 hiding bin
local macro_rules | `(tactic| walk_at "st") => `(tactic| try simp only [ok_ret, ok_bnd, ok_bin, ok_binL, ok_var, varK_val, varK_own, ok_brw, brwK_some, pv_val, pv_own, ok_asB, asBK_bl, ok_andT, ok_orT, ok_notT, ok_iteT, ok_andV, ok_notV, blK_bl,
  ok_argN, ok_argC, ok_fits, ok_tupM, ok_lstM, ok_parN, ok_parS, intK_int, ok_slM, ok_joinM, strK_str, ok_itemsM, ok_rngM, ok_seqM, seqK_nx, seqK_rt, seqK_bk, seqK_ct, ok_ifM, ok_retM, ok_dropM, ok_skipM, ok_asgM, ok_asgO, ok_par2, ok_par2VO, ok_par2OO, ok_par3,
  ok_callM, rtK_rt, rtK_nx, ok_loopM, ok_lcM, ok_dispM, ok_prsN, ok_prsC, ok_hget0, getK_some, ok_hputM, putK0, pc, pb, pl, ppb, ppl, plen, ok_add, ok_addS, ok_addT, ok_addL, ok_sub, ok_mul, ok_ixL, ok_ixT, ok_unp, unpK_tup, ok_set0, ok_setC, ok_app, ok_pop, ok_chk', chkK_some, flK_nx, flK_ct, flK_bk, flK_rt, sl_L, sl_T, sl_S, it_L, it_T, ok_sortL, ok_sortT, wip, ok_div, ok_mod, ok_pow, ok_rep, ok_ord, ok_fInt, ok_fAbs, ok_fNeg, ok_lenL, ok_lenT, ok_lenS, ok_fListL, ok_fListT, ok_fTupleL, ok_fTupleT, ok_eqI, ok_eqB, ok_eqS,
  okF_ok, okF_exc, ok_runM, ok_appA, ok_len1, ok_chain, isNonB_non, isNonB_int, isNonB_bl, isNonB_str, isNonB_tup, isNonB_lst, isNonB_obj, ok_isN, ok_max, ok_min, isi_int_int, isi_int_bl, isi_int_non, isi_int_str, isi_int_tup, isi_int_lst, isi_bool_int, isi_bool_bl, isi_str_str, isi_str_int, isi_str_bl, isi_str_non, isi_str_tup, isi_str_lst, isi_tuple_tup, isi_tuple_int, isi_tuple_bl, isi_tuple_non, isi_tuple_str, isi_tuple_lst,
  ok_conM, ok_fputM, fputK_new, conV_new, ok_methM,
  List.map_cons, List.map_nil, List.replicate_succ, List.replicate_zero, List.cons_append, List.nil_append, List.append_nil, List.getElem?_cons_zero, List.getElem?_cons_succ, List.set_cons_zero, List.set_cons_succ, Nat.reduceSub, decide_eq_true_eq, if_true, if_false, Bool.false_eq_true, Bool.not_true, Bool.not_false, beq_self_eq_true, Bool.true_eq_false, bne_self_eq_false, Bool.bne_true, Bool.bne_false, Nat.zero_add, Nat.reduceAdd, true_and, and_true, reduceCtorEq, List.length_cons, List.length_nil])
abbrev AZ : Str := "abcdefghijklmnopqrstuvwxyz"
def lowC (c : Nat) : Prop := c ∈ AZ.cps.toList
instance (c : Nat) : Decidable (lowC c) := inferInstanceAs (Decidable (c ∈ AZ.cps.toList))
/-- a name: 1 to 8 letters -/
structure Nm (x : Str) : Prop where
  pos : 0 < x.length
  le : x.length ≤ 8
  low : ∀ c ∈ x.cps.toList, lowC c
theorem low_ok {c : Nat} (h : lowC c) : c < 0x110000 := by
  have : ∀ d ∈ AZ.cps.toList, d < 0x110000 := by decide +kernel
  exact this c h
theorem Nm.sOk {x : Str} (h : Nm x) : sOk 8 x := ⟨strOk_iff.mpr fun c hc => low_ok (h.low c hc), h.le⟩
/-- texts of small letters -/
structure Lo (w : Nat) (x : Str) : Prop where
  le : x.length ≤ w
  low : ∀ c ∈ x.cps.toList, lowC c
theorem Lo.cut {w : Nat} {x : Str} {lo hi : Option Int} (h : Lo w x) : Lo w (L2.cutS x lo hi) := by
  refine ⟨?_, fun c hc => ?_⟩
  · refine Nat.le_trans ?_ h.le
    unfold L2.cutS
    show ((List.take _ _).toArray).size ≤ x.cps.size
    rw [List.size_toArray, List.length_take, List.length_drop, Array.length_toList]
    omega
  · have : c ∈ x.cps.toList := by
      unfold L2.cutS at hc
      exact List.mem_of_mem_drop (List.mem_of_mem_take (by simpa using hc))
    exact h.low c this
theorem app_cps {x y : Str} : (x ++ y).cps.toList = x.cps.toList ++ y.cps.toList := by
  show (x.cps ++ y.cps).toList = _
  rw [Array.toList_append]
theorem app_len {x y : Str} : (x ++ y).length = x.length + y.length := by
  show (x.cps ++ y.cps).size = _
  rw [Array.size_append]
  rfl
theorem Lo.app {w v : Nat} {x y : Str} (h : Lo w x) (h' : Lo v y) : Lo (w + v) (x ++ y) := by
  refine ⟨by rw [app_len]; exact Nat.add_le_add h.le h'.le, fun c hc => ?_⟩
  rw [app_cps] at hc
  rcases List.mem_append.mp hc with hc | hc
  · exact h.low c hc
  · exact h'.low c hc
theorem Lo.one {c : Nat} (h : lowC c) : Lo 1 ⟨#[c]⟩ := ⟨Nat.le_refl _, fun d hd => by
  have : d = c := by simpa using hd
  rw [this]; exact h⟩
theorem cut_to_len {x : Str} {k : Nat} (h : k ≤ x.length) : (L2.cutS x none (some (k : Int))).cps.toList = x.cps.toList.take k := by
  unfold L2.cutS
  rw [HT.sIx_none, HT.sIx_nat]
  simp [Str.length] at h ⊢
theorem cut_from_len {x : Str} {k : Nat} (h : k ≤ x.length) : (L2.cutS x (some (k : Int)) none).cps.toList = x.cps.toList.drop k := by
  unfold L2.cutS
  rw [HT.sIx_none, HT.sIx_nat]
  simp [Str.length] at h ⊢
  rw [Nat.min_eq_left h, List.take_of_length_le]
  rw [List.length_drop, Array.length_toList]
  exact Nat.le_refl _
theorem len_cps {x : Str} : x.cps.toList.length = x.length := by simp [Str.length]
/-- the letters' list is without twice -/
theorem az_nodup : AZ.cps.toList.Nodup := by decide +kernel
theorem lowJoin : ∀ {zs : List Str}, (∀ z ∈ zs, Lo 1 z ∧ z.length = 1) → ∀ c ∈ (Txt.join (Str.ofString "") zs).cps.toList, lowC c := by
  intro zs h
  have key : ∀ (ps : List Str) (acc : Array Nat), (∀ z ∈ ps, Lo 1 z ∧ z.length = 1) → (∀ c ∈ acc.toList, lowC c) → ∀ c ∈ (ps.foldl (fun acc p => acc ++ (Str.ofString "").cps ++ p.cps) acc).toList, lowC c := by
    intro ps
    induction ps with
    | nil => intro acc _ h c hc; exact h c hc
    | cons p ps ih =>
      intro acc hz ha c hc
      rw [List.foldl_cons] at hc
      refine ih _ (fun z hm => hz z (List.mem_cons_of_mem _ hm)) (fun c hc => ?_) c hc
      rw [Array.toList_append, Array.toList_append] at hc
      rcases List.mem_append.mp hc with hc | hc
      · rcases List.mem_append.mp hc with hc | hc
        · exact ha c hc
        · exact absurd hc (by rw [show (Str.ofString "").cps.toList = [] from rfl]; exact List.not_mem_nil)
      · exact (hz p List.mem_cons_self).1.low c hc
  cases zs with
  | nil => intro c hc; exact absurd hc (by rw [show (Txt.join (Str.ofString "") []).cps.toList = [] from rfl]; exact List.not_mem_nil)
  | cons z r => exact key r z.cps (fun y hy => h y (List.mem_cons_of_mem _ hy)) (fun c hc => (h z List.mem_cons_self).1.low c hc)
theorem g_odd {fi g : Int} {i j : Nat} (hg : g = 1 ∨ g = 3 ∨ g = 5 ∨ g = 7 ∨ g = 9 ∨ g = 11 ∨ g = 15 ∨ g = 17 ∨ g = 19 ∨ g = 21 ∨ g = 23 ∨ g = 25) (hi : i < 26) (hj : j < 26) (h : (fi + g * (i : Int)) % 26 = (fi + g * (j : Int)) % 26) : i = j := by
  rcases hg with rfl | rfl | rfl | rfl | rfl | rfl | rfl | rfl | rfl | rfl | rfl | rfl <;> omega
theorem nodup_inj {α : Type} {l : List α} (h : l.Nodup) {i j : Nat} (hi : i < l.length) (hj : j < l.length) (e : l[i] = l[j]) : i = j := by
  have h := List.pairwise_iff_getElem.mp h
  rcases Nat.lt_trichotomy i j with q | q | q
  · exact absurd e (h i j hi hj q)
  · exact q
  · exact absurd e.symm (h j i hj hi q)
/-- what a name is like: before, a letter, behind -/
def nmAt (stem : Str) (at' : Nat) (c : Nat) (x : Str) : Prop := ∃ tl : List Nat, x.cps.toList = stem.cps.toList.take at' ++ c :: tl
theorem nmAt_ne {stem : Str} {k : Nat} {c d : Nat} {x y : Str} (hk : k ≤ stem.length) (hx : nmAt stem k c x) (hy : nmAt stem k d y) (h : c ≠ d) : x ≠ y := by
  rintro rfl
  obtain ⟨t, e⟩ := hx
  obtain ⟨u, e2⟩ := hy
  rw [e] at e2
  have := List.append_cancel_left e2
  exact h (List.cons.inj this).1
/-! ### names are told -/
theorem sign_in {c : Nat} {z : Str} {s : S} {E : PV → S → Prop} {Q : PV → S → Prop} : Okx E (lft (inP false (.str ⟨#[c]⟩) (.str z))) s Q ↔ Q (.bl (decide (c ∈ z.cps.toList))) s := by
  rw [ok_lft]
  unfold inP
  simp
def nameB (x : Str) : Bool := decide (0 < x.length) && (decide (x.length ≤ 8) && x.cps.toList.all fun c => decide (lowC c))
theorem nameB_iff {x : Str} : nameB x = true ↔ Nm x := by
  unfold nameB
  simp only [Bool.and_eq_true, decide_eq_true_eq, List.all_eq_true]
  exact ⟨fun h => ⟨h.1, h.2.1, h.2.2⟩, fun h => ⟨h.pos, h.le, h.low⟩⟩
theorem it_S {x : Str} {R : List PV → Prop} : (∃ z, itemsP (.str x) = some z ∧ R z) ↔ R (x.cps.toList.map fun c => .str ⟨#[c]⟩) := by simp [itemsP, signsP]
set_option maxHeartbeats 4000000 in
theorem eq_is_name {n : Nat} {x : Str} {st : List MO} (hx : x.length ≤ 16777216) : m_is_name n [.str x] st = .ok (.bl (nameB x)) st := by
  have hz : sizeLine = 16777216 := sizeLine_eq
  refine OkFx.eq ?_
  unfold m_is_name
  refine okF_fnF rfl ?_
  unfold b_is_name
  walk_at "st"
  refine ⟨by omega, ?_⟩
  walk_at "st"
  unfold nameB
  split
  · rename_i h1
    split
    · rename_i h2
      walk_at "st"
      rw [it_S]
      refine ok_lcT (fun c => PV.str ⟨#[c]⟩) (fun _ => true) (fun c => PV.bl (decide (lowC c))) rfl (by simp) (by rw [len_cps]; omega) (fun _ => rfl) (fun c hc => ?_) (fun c hc _ => ?_) ?_
      · walk_at "st"
      · walk_at "st"
        rw [sign_in]
        exact ⟨rfl, rfl⟩
      · rw [filter_true]
        refine ok_allM.mpr ?_
        have h1' : 0 < x.length := by omega
        have h2' : x.length ≤ 8 := by omega
        simp [h1', h2', rtK]
    · rename_i h2
      walk_at "st"
      have h2' : ¬ x.length ≤ 8 := by omega
      simp [h2', rtK]
  · rename_i h1
    walk_at "st"
    have h1' : ¬ 0 < x.length := by omega
    simp [h1', rtK]
end Lw
/-! C2: the names of the laws from k26 on. -/
namespace Lw
open PySem Dn
open L2 hiding bin
local macro_rules | `(tactic| walk_at "st") => `(tactic| try simp only [ok_ret, ok_bnd, ok_bin, ok_binL, ok_var, varK_val, varK_own, ok_brw, brwK_some, pv_val, pv_own, ok_asB, asBK_bl, ok_andT, ok_orT, ok_notT, ok_iteT, ok_andV, ok_notV, blK_bl,
  ok_argN, ok_argC, ok_fits, ok_tupM, ok_lstM, ok_parN, ok_parS, intK_int, ok_slM, ok_joinM, strK_str, ok_itemsM, ok_rngM, ok_seqM, seqK_nx, seqK_rt, seqK_bk, seqK_ct, ok_ifM, ok_retM, ok_dropM, ok_skipM, ok_asgM, ok_asgO, ok_par2, ok_par2VO, ok_par2OO, ok_par3,
  ok_callM, rtK_rt, rtK_nx, ok_loopM, ok_lcM, ok_dispM, ok_prsN, ok_prsC, ok_hget0, getK_some, ok_hputM, putK0, pc, pb, pl, ppb, ppl, plen, ok_add, ok_addS, ok_addT, ok_addL, ok_sub, ok_mul, ok_ixL, ok_ixT, ok_unp, unpK_tup, ok_set0, ok_setC, ok_app, ok_pop, ok_chk', chkK_some, flK_nx, flK_ct, flK_bk, flK_rt, sl_L, sl_T, sl_S, it_L, it_T, ok_sortL, ok_sortT, wip, ok_div, ok_mod, ok_pow, ok_rep, ok_ord, ok_fInt, ok_fAbs, ok_fNeg, ok_lenL, ok_lenT, ok_lenS, ok_fListL, ok_fListT, ok_fTupleL, ok_fTupleT, ok_eqI, ok_eqB, ok_eqS,
  okF_ok, okF_exc, ok_runM, ok_appA, ok_len1, ok_chain, isNonB_non, isNonB_int, isNonB_bl, isNonB_str, isNonB_tup, isNonB_lst, isNonB_obj, ok_isN, ok_max, ok_min, isi_int_int, isi_int_bl, isi_int_non, isi_int_str, isi_int_tup, isi_int_lst, isi_bool_int, isi_bool_bl, isi_str_str, isi_str_int, isi_str_bl, isi_str_non, isi_str_tup, isi_str_lst, isi_tuple_tup, isi_tuple_int, isi_tuple_bl, isi_tuple_non, isi_tuple_str, isi_tuple_lst,
  ok_conM, ok_fputM, fputK_new, conV_new, ok_methM,
  List.map_cons, List.map_nil, List.replicate_succ, List.replicate_zero, List.cons_append, List.nil_append, List.append_nil, List.getElem?_cons_zero, List.getElem?_cons_succ, List.set_cons_zero, List.set_cons_succ, Nat.reduceSub, decide_eq_true_eq, if_true, if_false, Bool.false_eq_true, Bool.not_true, Bool.not_false, beq_self_eq_true, Bool.true_eq_false, bne_self_eq_false, Bool.bne_true, Bool.bne_false, Nat.zero_add, Nat.reduceAdd, true_and, and_true, reduceCtorEq, List.length_cons, List.length_nil])
set_option maxHeartbeats 8000000 in
theorem sp_names {n : Nat} {B : Int} {k : Int} {cells : List Int} {g st : List MO} {Q : PV → List MO → Prop} (hbt : Bt cells) (hp : Pn cells B g st) (hB : B < 100000000) (hk : 0 ≤ k ∧ k ≤ 26)
    (h : ∀ (ss : List Str) st', ss.length = k.toNat → (∀ x ∈ ss, Nm x) → ss.Nodup → Pn cells (B + 50) g st' → Q (.lst (ss.map .str)) st') : OkF (m_law_names n [.hnd 0, .int k] st) Q := by
  have hz : sizeLine = 16777216 := sizeLine_eq
  unfold m_law_names
  refine okF_fnF rfl ?_
  unfold b_law_names
  walk_at "st"
  refine ⟨by omega, ?_⟩
  refine sp_draw hbt hp (by omega) (by omega) fun r st1 h0 h1 hp1 => ?_
  walk_at "st"
  refine ⟨_, rngP_nat (by omega) (by omega), ?_⟩
  refine ok_lcEach (fun j st => Pn cells (B + 1 + (j : Int)) g st) (fun y => ∃ x : Str, y = .str x ∧ (Lo 1 x ∧ x.length = 1)) rfl (by simp) (by rw [rng_len]; omega) (hp1.mono (by omega)) (fun _ => rfl) ?_ ?_
  · intro j x st hx hp
    obtain ⟨rfl, hj⟩ := rng_get hx
    walk_at "st"
    refine sp_pickS hbt hp (by decide) (by omega) fun c st' hc hp' => ?_
    exact ⟨⟨_, rfl, Lo.one hc, rfl⟩, hp'.mono (by simp; omega)⟩
  intro ys st3 hl hy hp3
  obtain ⟨zs, rfl, hzs⟩ := ex_map hy
  rw [rng_len, List.length_map] at hl
  rw [rng_len] at hp3
  have hj : (zs.map (·.length)).sum + zs.length * (Str.ofString "").length ≤ 16777216 := by
    have h1 := sum_le (w := 1) (zs := zs) fun z hz => (hzs z hz).1.le
    have h2 : zs.length * (Str.ofString "").length = 0 := Nat.mul_zero _
    omega
  refine ⟨_, joinP_map hj, ?_⟩
  have hlen : (Txt.join (Str.ofString "") zs).length = zs.length := join_one zs fun z hz => (hzs z hz).2
  have hstem : Lo 8 (Txt.join (Str.ofString "") zs) := ⟨by omega, lowJoin hzs⟩
  have hpos : 0 < (Txt.join (Str.ofString "") zs).length := by omega
  generalize Txt.join (Str.ofString "") zs = stem at hstem hlen hpos
  have hst := hstem.le
  walk_at "st"
  refine ⟨by omega, ?_⟩
  refine sp_draw hbt hp3 (by omega) (by omega) fun at' st4 ha0 ha1 hp4 => ?_
  walk_at "st"
  refine sp_draw hbt hp4 (by omega) (by omega) fun fi st5 hf0 hf1 hp5 => ?_
  walk_at "st"
  refine ⟨by omega, ?_⟩
  refine sp_pickL hbt hp5 (by decide) (by omega) fun v st7 hv hp7 => ?_
  obtain ⟨gg, rfl, hg⟩ : ∃ g : Int, v = .int g ∧ (g = 1 ∨ g = 3 ∨ g = 5 ∨ g = 7 ∨ g = 9 ∨ g = 11 ∨ g = 15 ∨ g = 17 ∨ g = 19 ∨ g = 21 ∨ g = 23 ∨ g = 25) := by
    simp only [List.mem_cons, List.not_mem_nil, or_false] at hv
    rcases hv with rfl | rfl | rfl | rfl | rfl | rfl | rfl | rfl <;> exact ⟨_, rfl, by decide⟩
  walk_at "st"
  refine ⟨_, rngP_nat (by omega) (by omega), ?_⟩
  obtain ⟨a, rfl⟩ := Int.eq_ofNat_of_zero_le ha0
  have hal : a < stem.length := by omega
  refine ok_for (fun j s => ∃ e8 e9 fs st', s = ⟨[some (SV.val (PV.hnd 0)), some (SV.val (PV.int k)), some (SV.val (PV.str AZ)), some (SV.own (fs.map PV.str)), some (SV.val (PV.str stem)), some (SV.val (PV.int a)), some (SV.val (PV.int fi)), some (SV.val (PV.int gg)), e8, e9], st'⟩ ∧ fs.length = j ∧ (∀ x ∈ fs, Nm x ∧ ∃ t : Nat, t < j ∧ ∃ c, L2.atI AZ.cps.toList ((fi + gg * (t : Int)) % 26) = some c ∧ nmAt stem a c x) ∧ fs.Nodup ∧ Pn cells (B + 1 + 8 + 3 + (j : Int)) g st') ⟨none, none, [], _, rfl, rfl, (fun x hx => by cases hx), List.nodup_nil, hp7.mono (by omega)⟩ ?_ ?_
  · rintro j x s hx ⟨e8, e9, fs, st', rfl, hfl, hfs, hnd, hpj⟩
    obtain ⟨rfl, hj⟩ := rng_get hx
    walk_at "st"
    refine sp_draw hbt hpj (by omega) (by omega) fun d st8 hd0 hd1 hp8 => ?_
    walk_at "st"
    have hs1 : Lo 8 (L2.cutS stem (some ((a : Int) + 1)) none) := hstem.cut
    have hs2 : Lo 8 (L2.cutS stem none (some (a : Int))) := hstem.cut
    have e1 := cut_from_len (x := stem) (k := a + 1) (by omega)
    have e2 := cut_to_len (x := stem) (k := a) (by omega)
    have l1 : (L2.cutS stem (some ((a : Int) + 1)) none).length = stem.length - (a + 1) := by rw [← len_cps, show ((a : Int) + 1) = ((a + 1 : Nat) : Int) by omega, e1, List.length_drop, len_cps]
    have l2 : (L2.cutS stem none (some (a : Int))).length = a := by rw [← len_cps, e2, List.length_take, len_cps]; omega
    have hlt : AZ.length ≤ sizeLine := by rw [hz]; decide
    obtain ⟨c, hc, hcm⟩ := atI_in (ds := AZ.cps.toList) (k := (fi + gg * (j : Int)) % 26) (Int.emod_nonneg _ (by decide)) (Int.emod_lt_of_pos _ (by decide))
    have hc1 : Lo 1 ⟨#[c]⟩ := Lo.one hcm
    have key : ∀ (tl : Str), Lo 8 tl → tl.length ≤ stem.length - (a + 1) → ((L2.cutS stem none (some (a : Int))).length + (⟨#[c]⟩ : Str).length ≤ sizeLine ∧ (L2.cutS stem none (some (a : Int)) ++ ⟨#[c]⟩).length + tl.length ≤ sizeLine) ∧ (Nm (L2.cutS stem none (some (a : Int)) ++ ⟨#[c]⟩ ++ tl) ∧ nmAt stem a c (L2.cutS stem none (some (a : Int)) ++ ⟨#[c]⟩ ++ tl)) := fun tl htl hll => by
      have l0 : (⟨#[c]⟩ : Str).length = 1 := rfl
      refine ⟨⟨by omega, by rw [app_len]; omega⟩, ⟨by rw [app_len, app_len]; omega, by rw [app_len, app_len]; omega, ((hs2.app hc1).app htl).low⟩, tl.cps.toList, ?_⟩
      rw [app_cps, app_cps, e2, List.append_assoc]
      rfl
    have step : ∀ (tl : Str) (e9 : Option SV), Lo 8 tl → tl.length ≤ stem.length - (a + 1) → ∃ (e8 e9' : Option SV) (fs' : List Str) (st' : List MO), (⟨[some (SV.val (PV.hnd 0)), some (SV.val (PV.int k)), some (SV.val (PV.str AZ)), some (SV.own (fs.map PV.str ++ [PV.str (L2.cutS stem none (some (a : Int)) ++ ⟨#[c]⟩ ++ tl)])), some (SV.val (PV.str stem)), some (SV.val (PV.int a)), some (SV.val (PV.int fi)), some (SV.val (PV.int gg)), some (SV.val (PV.int j)), e9], st8⟩ : S) = ⟨[some (SV.val (PV.hnd 0)), some (SV.val (PV.int k)), some (SV.val (PV.str AZ)), some (SV.own (fs'.map PV.str)), some (SV.val (PV.str stem)), some (SV.val (PV.int a)), some (SV.val (PV.int fi)), some (SV.val (PV.int gg)), e8, e9'], st'⟩ ∧ fs'.length = j + 1 ∧ (∀ x ∈ fs', Nm x ∧ ∃ t : Nat, t < j + 1 ∧ ∃ c, L2.atI AZ.cps.toList ((fi + gg * (t : Int)) % 26) = some c ∧ nmAt stem a c x) ∧ fs'.Nodup ∧ Pn cells (B + 1 + 8 + 3 + ((j + 1 : Nat) : Int)) g st' := fun tl e9 htl hll => by
      obtain ⟨_, hnm, hat⟩ := key tl htl hll
      refine ⟨_, _, fs ++ [_], _, by rw [List.map_append]; rfl, by rw [List.length_append, hfl]; rfl, fun x hx => ?_, ?_, hp8.mono (by omega)⟩
      · rcases List.mem_append.mp hx with hx | hx
        · obtain ⟨q1, t, ht, q2⟩ := hfs x hx
          exact ⟨q1, t, by omega, q2⟩
        · rw [List.mem_singleton.mp hx]
          exact ⟨hnm, j, by omega, c, hc, hat⟩
      · refine List.nodup_append.mpr ⟨hnd, List.nodup_cons.mpr ⟨List.not_mem_nil, List.nodup_nil⟩, fun x hx y hy => ?_⟩
        rw [List.mem_singleton.mp hy]
        obtain ⟨q1, t, ht, d, hd, q2⟩ := hfs x hx
        refine nmAt_ne (by omega) q2 hat fun e => ?_
        subst e
        have h26 : AZ.cps.toList.length = 26 := by decide +kernel
        have m0 : ∀ z : Int, 0 ≤ z % 26 ∧ z % 26 < 26 := fun z => ⟨Int.emod_nonneg _ (by decide), Int.emod_lt_of_pos _ (by decide)⟩
        obtain ⟨p1, hp1⟩ := Int.eq_ofNat_of_zero_le (m0 (fi + gg * (t : Int))).1
        obtain ⟨p2, hp2⟩ := Int.eq_ofNat_of_zero_le (m0 (fi + gg * (j : Int))).1
        have b1 : p1 < AZ.cps.toList.length := by have := (m0 (fi + gg * (t : Int))).2; omega
        have b2 : p2 < AZ.cps.toList.length := by have := (m0 (fi + gg * (j : Int))).2; omega
        have w1 := L2.atI_nat (List.getElem?_eq_getElem b1)
        have w2 := L2.atI_nat (List.getElem?_eq_getElem b2)
        rw [hp1, w1] at hd
        rw [hp2, w2] at hc
        have ee : AZ.cps.toList[p1] = AZ.cps.toList[p2] := by rw [Option.some.inj hd, Option.some.inj hc]
        have := nodup_inj az_nodup b1 b2 ee
        have := g_odd (fi := fi) hg (i := t) (j := j) (by omega) (by omega) (by rw [hp1, hp2]; omega)
        omega
    have hfl2 : (fs.map PV.str).length < sizeLine := by rw [List.length_map]; omega
    split
    · obtain ⟨⟨k1, k2⟩, _⟩ := key _ hs1 (by omega)
      walk_at "st"
      refine ⟨by omega, ⟨_, rfl⟩, by omega, cmul100 (by omega) (by omega), by decide, ?_⟩
      rw [ok_ixS hlt]
      refine ⟨c, hc, ?_⟩
      walk_at "st"
      refine ⟨k1, k2, ?_⟩
      rw [ok_push rfl hfl2]
      walk_at "st"
      exact step _ _ hs1 (by omega)
    · have hem : Lo 8 (Str.ofString "") := ⟨Nat.zero_le _, fun c hc => absurd hc (by rw [show (Str.ofString "").cps.toList = [] from rfl]; exact List.not_mem_nil)⟩
      obtain ⟨⟨k1, k2⟩, _⟩ := key _ hem (Nat.zero_le _)
      walk_at "st"
      refine ⟨⟨_, rfl⟩, by omega, cmul100 (by omega) (by omega), by decide, ?_⟩
      rw [ok_ixS hlt]
      refine ⟨c, hc, ?_⟩
      walk_at "st"
      refine ⟨k1, k2, ?_⟩
      rw [ok_push rfl hfl2]
      walk_at "st"
      exact step _ _ hem (Nat.zero_le _)
  · rintro s ⟨e8, e9, fs, st', rfl, hfl, hfs, hnd, hpj⟩
    walk_at "st"
    refine h fs st' ?_ (fun x hx => (hfs x hx).1) hnd (hpj.mono (by rw [rng_len]; omega))
    rw [hfl, rng_len]
end Lw
/-! O3: offices: their values, how they are made. -/
namespace Lw
open PySem Dn
open L2 hiding bin
local macro_rules | `(tactic| walk_at "st") => `(tactic| try simp only [ok_ret, ok_bnd, ok_bin, ok_binL, ok_var, varK_val, varK_own, ok_brw, brwK_some, pv_val, pv_own, ok_asB, asBK_bl, ok_andT, ok_orT, ok_notT, ok_iteT, ok_andV, ok_notV, blK_bl,
  ok_argN, ok_argC, ok_fits, ok_tupM, ok_lstM, ok_parN, ok_parS, intK_int, ok_slM, ok_joinM, strK_str, ok_itemsM, ok_rngM, ok_seqM, seqK_nx, seqK_rt, seqK_bk, seqK_ct, ok_ifM, ok_retM, ok_dropM, ok_skipM, ok_asgM, ok_asgO, ok_par2, ok_par2VO, ok_par2OO, ok_par3,
  ok_callM, rtK_rt, rtK_nx, ok_loopM, ok_lcM, ok_dispM, ok_prsN, ok_prsC, ok_hget0, getK_some, ok_hputM, putK0, pc, pb, pl, ppb, ppl, plen, ok_add, ok_addS, ok_addT, ok_addL, ok_sub, ok_mul, ok_ixL, ok_ixT, ok_unp, unpK_tup, ok_set0, ok_setC, ok_app, ok_pop, ok_chk', chkK_some, flK_nx, flK_ct, flK_bk, flK_rt, sl_L, sl_T, sl_S, it_L, it_T, ok_sortL, ok_sortT, wip, ok_div, ok_mod, ok_pow, ok_rep, ok_ord, ok_fInt, ok_fAbs, ok_fNeg, ok_lenL, ok_lenT, ok_lenS, ok_fListL, ok_fListT, ok_fTupleL, ok_fTupleT, ok_eqI, ok_eqB, ok_eqS,
  okF_ok, okF_exc, ok_runM, ok_appA, ok_len1, ok_chain, isNonB_non, isNonB_int, isNonB_bl, isNonB_str, isNonB_tup, isNonB_lst, isNonB_obj, ok_isN, ok_max, ok_min, isi_int_int, isi_int_bl, isi_int_non, isi_int_str, isi_int_tup, isi_int_lst, isi_bool_int, isi_bool_bl, isi_str_str, isi_str_int, isi_str_bl, isi_str_non, isi_str_tup, isi_str_lst, isi_tuple_tup, isi_tuple_int, isi_tuple_bl, isi_tuple_non, isi_tuple_str, isi_tuple_lst,
  ok_conM, ok_fputM, fputK_new, conV_new, ok_methM,
  List.map_cons, List.map_nil, List.replicate_succ, List.replicate_zero, List.cons_append, List.nil_append, List.append_nil, List.getElem?_cons_zero, List.getElem?_cons_succ, List.set_cons_zero, List.set_cons_succ, Nat.reduceSub, decide_eq_true_eq, if_true, if_false, Bool.false_eq_true, Bool.not_true, Bool.not_false, beq_self_eq_true, Bool.true_eq_false, bne_self_eq_false, Bool.bne_true, Bool.bne_false, Nat.zero_add, Nat.reduceAdd, true_and, and_true, reduceCtorEq, List.length_cons, List.length_nil])
local macro_rules | `(tactic| walk_at "sx") => `(tactic| try simp only [ok_ret, ok_bnd, ok_bin, ok_binL, ok_var, varK_val, varK_own, ok_brw, brwK_some, pv_val, pv_own, ok_asB, asBK_bl, ok_andT, ok_orT, ok_notT, ok_iteT, ok_andV, ok_notV, blK_bl,
  ok_argN, ok_argC, ok_fits, ok_tupM, ok_lstM, ok_parN, ok_parS, intK_int, ok_slM, ok_joinM, strK_str, ok_itemsM, ok_rngM, seqK_nx, seqK_rt, seqK_bk, seqK_ct, ok_ifM, ok_retM, ok_dropM, ok_skipM, ok_asgM, ok_asgO, ok_par2, ok_par2VO, ok_par2OO, ok_par3,
  ok_callM, rtK_rt, rtK_nx, ok_loopM, ok_lcM, ok_dispM, ok_prsN, ok_prsC, ok_hget0, getK_some, ok_hputM, putK0, pc, pb, pl, ppb, ppl, plen, ok_add, ok_addS, ok_addT, ok_addL, ok_sub, ok_mul, ok_ixL, ok_ixT, ok_unp, unpK_tup, ok_set0, ok_setC, ok_app, ok_pop, ok_chk', chkK_some, flK_nx, flK_ct, flK_bk, flK_rt, sl_L, sl_T, sl_S, it_L, it_T, ok_sortL, ok_sortT, wip, ok_div, ok_mod, ok_pow, ok_rep, ok_ord, ok_fInt, ok_fAbs, ok_fNeg, ok_lenL, ok_lenT, ok_lenS, ok_fListL, ok_fListT, ok_fTupleL, ok_fTupleT, ok_eqI, ok_eqB, ok_eqS,
  okF_ok, okF_exc, ok_runM, ok_appA, ok_len1, ok_chain, isNonB_non, isNonB_int, isNonB_bl, isNonB_str, isNonB_tup, isNonB_lst, isNonB_obj, ok_isN, ok_max, ok_min, isi_int_int, isi_int_bl, isi_int_non, isi_int_str, isi_int_tup, isi_int_lst, isi_bool_int, isi_bool_bl, isi_str_str, isi_str_int, isi_str_bl, isi_str_non, isi_str_tup, isi_str_lst, isi_tuple_tup, isi_tuple_int, isi_tuple_bl, isi_tuple_non, isi_tuple_str, isi_tuple_lst,
  ok_conM, ok_fputM, fputK_new, conV_new, ok_methM,
  List.map_cons, List.map_nil, List.replicate_succ, List.replicate_zero, List.cons_append, List.nil_append, List.append_nil, List.getElem?_cons_zero, List.getElem?_cons_succ, List.set_cons_zero, List.set_cons_succ, Nat.reduceSub, decide_eq_true_eq, if_true, if_false, Bool.false_eq_true, Bool.not_true, Bool.not_false, beq_self_eq_true, Bool.true_eq_false, bne_self_eq_false, Bool.bne_true, Bool.bne_false, Nat.zero_add, Nat.reduceAdd, true_and, and_true, reduceCtorEq, List.length_cons, List.length_nil])
structure OfV where
  nm : Str
  src : Str
  dst : Str
  p : Int
  q : Int
  fee : Int
  least : Int
  most : Option Int
deriving DecidableEq
def OfV.mostV (o : OfV) : PV := match o.most with
  | none => .non
  | some m => .int m
structure OfV.Wf (o : OfV) : Prop where
  nm : Nm o.nm
  src : Nm o.src
  dst : Nm o.dst
  p : 1 ≤ o.p ∧ o.p ≤ 9
  q : 1 ≤ o.q ∧ o.q ≤ 9
  fee : 0 ≤ o.fee ∧ o.fee ≤ 20
  least : 0 ≤ o.least ∧ o.least ≤ 1000
  most : ∀ m, o.most = some m → o.least ≤ m ∧ m ≤ 1000000
def OfV.row (o : OfV) : PV := .tup [.str o.nm, .str o.src, .str o.dst, .tup [.int o.p, .int o.q], .int o.fee, .int o.least, o.mostV]
abbrev KS5 : List Str := ["name", "own_ends", "own_rate", "own_fee", "own_least"]
abbrev KS6 : List Str := ["name", "own_ends", "own_rate", "own_fee", "own_least", "own_most"]
abbrev OfV.vs5 (o : OfV) : List PV := [.str o.nm, .tup [.str o.src, .str o.dst], .tup [.int o.p, .int o.q], .int o.fee, .int o.least]
abbrev OfV.vs6 (o : OfV) (m : Int) : List PV := [.str o.nm, .tup [.str o.src, .str o.dst], .tup [.int o.p, .int o.q], .int o.fee, .int o.least, .int m]
def OfV.pv (o : OfV) : PV := match o.most with
  | none => .obj "Office" KS5 o.vs5
  | some m => .obj "CappedOffice" KS6 (o.vs6 m)
theorem OfV.pv_none {o : OfV} (h : o.most = none) : o.pv = .obj "Office" KS5 o.vs5 := by unfold OfV.pv; rw [h]
theorem OfV.pv_some {o : OfV} {m : Int} (h : o.most = some m) : o.pv = .obj "CappedOffice" KS6 (o.vs6 m) := by unfold OfV.pv; rw [h]
def OfV.cap (o : OfV) (a : Int) : Int := match o.most with
  | none => a
  | some m => min a m
def OfV.val (o : OfV) (a : Int) : Int := max 0 (o.cap a * o.p / o.q - o.fee)
def OfV.res (o : OfV) (a : Int) : PV := if o.cap a < o.least then .non else .int (o.val a)
/-! ### checks -/
def inB (lo hi a : Int) : Bool := decide (lo ≤ a) && decide (a ≤ hi)
set_option maxHeartbeats 4000000 in
theorem eq_is_integer {n : Nat} {a lo hi : Int} {st : List MO} : m_is_integer n [.int a, .int lo, .int hi] st = .ok (.bl (inB lo hi a)) st := by
  refine OkFx.eq ?_
  unfold m_is_integer
  refine okF_fnF rfl ?_
  unfold b_is_integer inB
  walk_at "st"
  by_cases h : lo ≤ a <;> simp [h, rtK]
set_option maxHeartbeats 4000000 in
theorem eq_need_name {n : Nat} {x : Str} {st : List MO} (h : Nm x) : m_need_name n [.str x] st = .ok .non st := by
  refine OkFx.eq ?_
  unfold m_need_name
  refine okF_fnF rfl ?_
  unfold b_need_name
  walk_at "st"
  rw [eq_is_name (by have := h.le; omega)]
  walk_at "st"
  rw [nameB_iff.mpr h]
  simp [rtK]
set_option maxHeartbeats 4000000 in
theorem eq_need_integer {n : Nat} {a lo hi : Int} {st : List MO} (h : lo ≤ a ∧ a ≤ hi) : m_need_integer n [.int a, .int lo, .int hi] st = .ok .non st := by
  refine OkFx.eq ?_
  unfold m_need_integer
  refine okF_fnF rfl ?_
  unfold b_need_integer
  walk_at "st"
  rw [eq_is_integer]
  walk_at "st"
  simp [inB, h.1, h.2, rtK]
set_option maxHeartbeats 4000000 in
theorem eq_is_rate {n : Nat} {p q : Int} {st : List MO} (hp : 1 ≤ p ∧ p ≤ 9) (hq : 1 ≤ q ∧ q ≤ 9) : m_is_rate n [.tup [.int p, .int q]] st = .ok (.bl true) st := by
  have hz : sizeLine = 16777216 := sizeLine_eq
  refine OkFx.eq ?_
  unfold m_is_rate
  refine okF_fnF rfl ?_
  unfold b_is_rate
  walk_at "st"
  simp
  walk_at "st"
  refine ok_lcT (as := [p, q]) PV.int (fun _ => true) (fun _ => PV.bl true) rfl (by simp) (by rw [hz]; simp) (fun _ => rfl) (fun c hc => ?_) (fun c hc _ => ?_) ?_
  · walk_at "st"
  · walk_at "st"
    rw [eq_is_integer]
    walk_at "st"
    simp only [List.mem_cons, List.not_mem_nil, or_false] at hc
    rcases hc with rfl | rfl <;> simp [inB, hp, hq]
  · rw [filter_true]
    refine ok_allM.mpr ?_
    simp [rtK]
/-! ### offices made -/
def isOff (c : Str) : Prop := c = "Office" ∨ c = "CappedOffice"
theorem isOff.mem {c : Str} (h : isOff c) : c ∈ (["Office", "CappedOffice"] : List Str) := by
  rcases h with rfl | rfl <;> decide +kernel
theorem putKV_new {f : Str} {v : PV} : ∀ {ks : List Str} {vs : List PV}, f ∉ ks → ks.length = vs.length → putKV f v ks vs = (ks ++ [f], vs ++ [v])
  | [], [], _, _ => rfl
  | k :: ks, w :: vs, h, hl => by
    have h1 : ¬ k = f := fun e => h (by rw [e]; exact List.mem_cons_self)
    have ih := putKV_new (f := f) (v := v) (ks := ks) (vs := vs) (fun m => h (List.mem_cons_of_mem _ m)) (by simpa using hl)
    unfold putKV
    rw [if_neg h1, ih]
    rfl
  | [], _ :: _, _, hl => by cases hl
  | _ :: _, [], _, hl => by cases hl
theorem pk1 {v : PV} : putKV "name" v [] [] = ((["name"] : List Str), ([v] : List PV)) := rfl
theorem pk2 {a v : PV} : putKV "own_ends" v ["name"] [a] = ((["name", "own_ends"] : List Str), ([a, v] : List PV)) := putKV_new (by decide +kernel) rfl
theorem pk3 {a b v : PV} : putKV "own_rate" v ["name", "own_ends"] [a, b] = ((["name", "own_ends", "own_rate"] : List Str), ([a, b, v] : List PV)) := putKV_new (by decide +kernel) rfl
theorem pk4 {a b c v : PV} : putKV "own_fee" v ["name", "own_ends", "own_rate"] [a, b, c] = ((["name", "own_ends", "own_rate", "own_fee"] : List Str), ([a, b, c, v] : List PV)) := putKV_new (by decide +kernel) rfl
theorem pk5 {a b c d v : PV} : putKV "own_least" v ["name", "own_ends", "own_rate", "own_fee"] [a, b, c, d] = (KS5, [a, b, c, d, v]) := putKV_new (by decide +kernel) rfl
theorem pk6 {a b c d e v : PV} : putKV "own_most" v KS5 [a, b, c, d, e] = (KS6, [a, b, c, d, e, v]) := putKV_new (by decide +kernel) rfl
set_option maxHeartbeats 4000000 in
theorem eq_Office_init {n : Nat} {c : Str} {o : OfV} {st : List MO} (hc : isOff c) (h : o.Wf) : m_Office_init n [.hnd st.length, .str o.nm, .str o.src, .str o.dst, .tup [.int o.p, .int o.q], .int o.fee, .int o.least] (mkS st c [] []) = .ok .non (mkS st c KS5 o.vs5) := by
  have hz : sizeLine = 16777216 := sizeLine_eq
  refine OkFx.eq ?_
  unfold m_Office_init
  refine okF_fnF rfl ?_
  unfold b_Office_init
  refine ok_seq ?_
  walk_at "sx"
  refine ⟨by omega, ?_⟩
  refine ok_for (fun j s => ∃ e7, s = ⟨[some (SV.val (PV.hnd st.length)), some (SV.val (PV.str o.nm)), some (SV.val (PV.str o.src)), some (SV.val (PV.str o.dst)), some (SV.val (PV.tup [.int o.p, .int o.q])), some (SV.val (PV.int o.fee)), some (SV.val (PV.int o.least)), e7], mkS st c [] []⟩) ⟨none, rfl⟩ ?_ ?_
  · rintro j x s hx ⟨e7, rfl⟩
    have hm := List.mem_of_getElem? hx
    obtain ⟨y, rfl, hy⟩ : ∃ y : Str, x = .str y ∧ Nm y := by
      simp only [List.mem_cons, List.not_mem_nil, or_false] at hm
      rcases hm with rfl | rfl | rfl
      · exact ⟨_, rfl, h.nm⟩
      · exact ⟨_, rfl, h.src⟩
      · exact ⟨_, rfl, h.dst⟩
    walk_at "st"
    rw [eq_need_name hy]
    walk_at "st"
    exact ⟨_, rfl⟩
  rintro s ⟨e7, rfl⟩
  walk_at "st"
  rw [eq_is_rate h.p h.q]
  walk_at "st"
  refine ⟨⟨hc.mem, rfl⟩, ?_⟩
  rw [eq_need_integer h.fee]
  walk_at "st"
  refine ⟨⟨hc.mem, rfl⟩, ?_⟩
  rw [eq_need_integer h.least]
  walk_at "st"
  simp only [pk1, pk2, pk3, pk4, pk5, List.length_cons, List.length_nil, hc.mem, true_and]
  refine ⟨by decide, by omega, ?_⟩
  walk_at "st"
  trivial
end Lw
/-! O4: offices made and asked (without the law's own). -/
namespace Lw
open PySem Dn
open L2 hiding bin
local macro_rules | `(tactic| walk_at "st") => `(tactic| try simp only [ok_ret, ok_bnd, ok_bin, ok_binL, ok_var, varK_val, varK_own, ok_brw, brwK_some, pv_val, pv_own, ok_asB, asBK_bl, ok_andT, ok_orT, ok_notT, ok_iteT, ok_andV, ok_notV, blK_bl,
  ok_argN, ok_argC, ok_fits, ok_tupM, ok_lstM, ok_parN, ok_parS, intK_int, ok_slM, ok_joinM, strK_str, ok_itemsM, ok_rngM, ok_seqM, seqK_nx, seqK_rt, seqK_bk, seqK_ct, ok_ifM, ok_retM, ok_dropM, ok_skipM, ok_asgM, ok_asgO, ok_par2, ok_par2VO, ok_par2OO, ok_par3,
  ok_callM, rtK_rt, rtK_nx, ok_loopM, ok_lcM, ok_dispM, ok_prsN, ok_prsC, ok_hget0, getK_some, ok_hputM, putK0, pc, pb, pl, ppb, ppl, plen, ok_add, ok_addS, ok_addT, ok_addL, ok_sub, ok_mul, ok_ixL, ok_ixT, ok_unp, unpK_tup, ok_set0, ok_setC, ok_app, ok_pop, ok_chk', chkK_some, flK_nx, flK_ct, flK_bk, flK_rt, sl_L, sl_T, sl_S, it_L, it_T, ok_sortL, ok_sortT, wip, ok_div, ok_mod, ok_pow, ok_rep, ok_ord, ok_fInt, ok_fAbs, ok_fNeg, ok_lenL, ok_lenT, ok_lenS, ok_fListL, ok_fListT, ok_fTupleL, ok_fTupleT, ok_eqI, ok_eqB, ok_eqS,
  okF_ok, okF_exc, ok_runM, ok_appA, ok_len1, ok_chain, isNonB_non, isNonB_int, isNonB_bl, isNonB_str, isNonB_tup, isNonB_lst, isNonB_obj, ok_isN, ok_max, ok_min, isi_int_int, isi_int_bl, isi_int_non, isi_int_str, isi_int_tup, isi_int_lst, isi_bool_int, isi_bool_bl, isi_str_str, isi_str_int, isi_str_bl, isi_str_non, isi_str_tup, isi_str_lst, isi_tuple_tup, isi_tuple_int, isi_tuple_bl, isi_tuple_non, isi_tuple_str, isi_tuple_lst,
  ok_conM, ok_fputM, fputK_new, conV_new, ok_methM,
  List.map_cons, List.map_nil, List.replicate_succ, List.replicate_zero, List.cons_append, List.nil_append, List.append_nil, List.getElem?_cons_zero, List.getElem?_cons_succ, List.set_cons_zero, List.set_cons_succ, Nat.reduceSub, decide_eq_true_eq, if_true, if_false, Bool.false_eq_true, Bool.not_true, Bool.not_false, beq_self_eq_true, Bool.true_eq_false, bne_self_eq_false, Bool.bne_true, Bool.bne_false, Nat.zero_add, Nat.reduceAdd, true_and, and_true, reduceCtorEq, List.length_cons, List.length_nil])
local macro_rules | `(tactic| walk_at "sx") => `(tactic| try simp only [ok_ret, ok_bnd, ok_bin, ok_binL, ok_var, varK_val, varK_own, ok_brw, brwK_some, pv_val, pv_own, ok_asB, asBK_bl, ok_andT, ok_orT, ok_notT, ok_iteT, ok_andV, ok_notV, blK_bl,
  ok_argN, ok_argC, ok_fits, ok_tupM, ok_lstM, ok_parN, ok_parS, intK_int, ok_slM, ok_joinM, strK_str, ok_itemsM, ok_rngM, seqK_nx, seqK_rt, seqK_bk, seqK_ct, ok_ifM, ok_retM, ok_dropM, ok_skipM, ok_asgM, ok_asgO, ok_par2, ok_par2VO, ok_par2OO, ok_par3,
  ok_callM, rtK_rt, rtK_nx, ok_loopM, ok_lcM, ok_dispM, ok_prsN, ok_prsC, ok_hget0, getK_some, ok_hputM, putK0, pc, pb, pl, ppb, ppl, plen, ok_add, ok_addS, ok_addT, ok_addL, ok_sub, ok_mul, ok_ixL, ok_ixT, ok_unp, unpK_tup, ok_set0, ok_setC, ok_app, ok_pop, ok_chk', chkK_some, flK_nx, flK_ct, flK_bk, flK_rt, sl_L, sl_T, sl_S, it_L, it_T, ok_sortL, ok_sortT, wip, ok_div, ok_mod, ok_pow, ok_rep, ok_ord, ok_fInt, ok_fAbs, ok_fNeg, ok_lenL, ok_lenT, ok_lenS, ok_fListL, ok_fListT, ok_fTupleL, ok_fTupleT, ok_eqI, ok_eqB, ok_eqS,
  okF_ok, okF_exc, ok_runM, ok_appA, ok_len1, ok_chain, isNonB_non, isNonB_int, isNonB_bl, isNonB_str, isNonB_tup, isNonB_lst, isNonB_obj, ok_isN, ok_max, ok_min, isi_int_int, isi_int_bl, isi_int_non, isi_int_str, isi_int_tup, isi_int_lst, isi_bool_int, isi_bool_bl, isi_str_str, isi_str_int, isi_str_bl, isi_str_non, isi_str_tup, isi_str_lst, isi_tuple_tup, isi_tuple_int, isi_tuple_bl, isi_tuple_non, isi_tuple_str, isi_tuple_lst,
  ok_conM, ok_fputM, fputK_new, conV_new, ok_methM,
  List.map_cons, List.map_nil, List.replicate_succ, List.replicate_zero, List.cons_append, List.nil_append, List.append_nil, List.getElem?_cons_zero, List.getElem?_cons_succ, List.set_cons_zero, List.set_cons_succ, Nat.reduceSub, decide_eq_true_eq, if_true, if_false, Bool.false_eq_true, Bool.not_true, Bool.not_false, beq_self_eq_true, Bool.true_eq_false, bne_self_eq_false, Bool.bne_true, Bool.bne_false, Nat.zero_add, Nat.reduceAdd, true_and, and_true, reduceCtorEq, List.length_cons, List.length_nil])
set_option maxHeartbeats 4000000 in
theorem eq_Capped_init {n : Nat} {o : OfV} {m : Int} {st : List MO} (h : o.Wf) (hm : o.most = some m) : m_CappedOffice_init n [.hnd st.length, .str o.nm, .str o.src, .str o.dst, .tup [.int o.p, .int o.q], .int m, .int o.fee, .int o.least] (mkS st "CappedOffice" [] []) = .ok .non (mkS st "CappedOffice" KS6 (o.vs6 m)) := by
  have hz : sizeLine = 16777216 := sizeLine_eq
  refine OkFx.eq ?_
  unfold m_CappedOffice_init
  refine okF_fnF rfl ?_
  unfold b_CappedOffice_init
  refine ok_seq ?_
  walk_at "sx"
  rw [ok_sup rfl insOf_new (m := m_Office_init) rfl]
  walk_at "sx"
  rw [eq_Office_init (o := o) (.inr rfl) h]
  walk_at "st"
  refine ⟨⟨by decide +kernel, rfl⟩, ?_⟩
  rw [eq_need_integer (h.most m hm)]
  walk_at "st"
  simp only [pk6, List.length_cons, List.length_nil]
  refine ⟨⟨by decide +kernel, by decide⟩, trivial⟩
theorem mostV_none {o : OfV} (h : o.most = none) : o.mostV = .non := by unfold OfV.mostV; rw [h]
theorem mostV_some {o : OfV} {m : Int} (h : o.most = some m) : o.mostV = .int m := by unfold OfV.mostV; rw [h]
/-! ### fields -/
section
variable {o : OfV} {s : S} {E : PV → S → Prop} {Q : PV → S → Prop} {cs : List Str}
theorem fld_of (hc : (["Office", "CappedOffice"] : List Str) = cs) {f : Str} {v : PV} (h5 : (KS5.zip o.vs5).lookup f = some v) (h6 : ∀ m, (KS6.zip (o.vs6 m)).lookup f = some v) : Okx E (fldM cs f o.pv) s Q ↔ Q v s := by
  refine ok_fld ?_
  subst hc
  cases hm : o.most with
  | none =>
    rw [OfV.pv_none hm]
    unfold fldV
    rw [insOf_obj]
    exact (if_pos (by decide +kernel)).trans h5
  | some m =>
    rw [OfV.pv_some hm]
    unfold fldV
    rw [insOf_obj]
    exact (if_pos (by decide +kernel)).trans (h6 m)
theorem f_name : Okx E (fldM ["Office", "CappedOffice"] "name" o.pv) s Q ↔ Q (.str o.nm) s := fld_of rfl rfl fun _ => rfl
theorem f_ends : Okx E (fldM ["Office", "CappedOffice"] "own_ends" o.pv) s Q ↔ Q (.tup [.str o.src, .str o.dst]) s := fld_of rfl rfl fun _ => rfl
theorem f_rate : Okx E (fldM ["Office", "CappedOffice"] "own_rate" o.pv) s Q ↔ Q (.tup [.int o.p, .int o.q]) s := fld_of rfl rfl fun _ => rfl
theorem f_fee : Okx E (fldM ["Office", "CappedOffice"] "own_fee" o.pv) s Q ↔ Q (.int o.fee) s := fld_of rfl rfl fun _ => rfl
theorem f_least : Okx E (fldM ["Office", "CappedOffice"] "own_least" o.pv) s Q ↔ Q (.int o.least) s := fld_of rfl rfl fun _ => rfl
theorem f_most {m : Int} (h : o.most = some m) : Okx E (fldM ["CappedOffice"] "own_most" o.pv) s Q ↔ Q (.int m) s := by
  refine ok_fld ?_
  rw [OfV.pv_some h]
  unfold fldV
  rw [insOf_obj]
  exact (if_pos (by decide +kernel)).trans rfl
end
end Lw
/-! NT: needed amounts as the greatest closed table (no program). -/
namespace Lw
open PySem Dn
open L2 hiding bin
/-! ### amounts, none the greatest -/
def LE : Option Int → Option Int → Prop
  | _, none => True
  | none, some _ => False
  | some a, some b => a ≤ b
theorem LE.refl : ∀ a : Option Int, LE a a
  | none => trivial
  | some a => Int.le_refl a
theorem LE.trans : ∀ {a b c : Option Int}, LE a b → LE b c → LE a c
  | _, _, none, _, _ => trivial
  | _, none, some _, _, h => h.elim
  | none, some _, some _, h, _ => h.elim
  | some _, some _, some _, h, k => Int.le_trans h k
/-! ### the inverse of an office -/
/-! ### closed tables -/
abbrev Tb := Str → Option Int
/-! ### rounds that grow -/
end Lw
/-! Pd: plain dicts. -/
namespace Dn
open PySem
open L2 hiding bin
section
variable {κ : Type} [DecidableEq κ] {kvs : List (κ × PV)} {k k' : κ} {v v' : PV}
theorem valP_none : valP kvs k = none ↔ ∀ v, (k, v) ∉ kvs := by
  unfold valP
  rw [Option.map_eq_none_iff, List.find?_eq_none]
  constructor
  · intro h v hm
    exact h _ hm (decide_eq_true rfl)
  · intro h p hp hd
    have e : p.1 = k := of_decide_eq_true hd
    exact h p.2 (by rw [← e]; exact hp)
theorem putP_len : (putP kvs k v).length ≤ kvs.length + 1 := by
  unfold putP
  split
  · rw [List.length_map]
    omega
  · rw [List.length_append]
    exact Nat.le_refl _
end
section
variable {E : PV → S → Prop} {s : S} {QB : Bool → S → Prop} {ca : M PV}
theorem ok_truT : Okx E (truT ca) s QB ↔ Okx E ca s (fun d s1 => ∃ b, truP d = some b ∧ QB b s1) := by
  unfold truT
  rw [ok_bnd]
  simp only [ok_lft]
theorem tru_bl {b : Bool} {R : Bool → Prop} : (∃ z, truP (.bl b) = some z ∧ R z) ↔ R b := by simp [truP]
end
section
variable {E : PV → S → Prop} {s : S} {Q : PV → S → Prop}
theorem any_str {x : Str} : ∀ {ss : List Str}, ((ss.map PyData.str).any fun z => PyData.eqv z (.str x)) = decide (x ∈ ss)
  | [] => by simp
  | y :: ss => by
    rw [List.map_cons, List.any_cons, any_str (ss := ss), eqv_str]
    by_cases e : y = x
    · simp [e]
    · have e2 : ¬ x = y := fun z => e z.symm
      simp [e, e2]
theorem inP_strs {neg : Bool} {x : Str} {ss : List Str} (hx : PyData.strOk x = true) (hs : ∀ y ∈ ss, PyData.strOk y = true) : inP neg (.str x) (.lst (ss.map .str)) = some (.bl (if neg then !decide (x ∈ ss) else decide (x ∈ ss))) := by
  have hv : (PV.str x).toD = some (.str x) := rfl
  have hvs := toDs_strs ss
  have h1 : SeqAt.shaped (PyData.str x) = true := by
    unfold SeqAt.shaped
    simp [PyData.canLay0, PyData.depth, hx]
  have h2 : SeqAt.shaped (PyData.list (ss.map .str)) = true := shaped_list (canLay_strs ss hs) (Nat.le_trans (depthStrs ss) (by decide))
  unfold inP
  simp only [hv, hvs, h1, h2, and_self, if_true, any_str]
theorem ok_inLS {neg : Bool} {x : Str} {ss : List Str} (hx : PyData.strOk x = true) (hs : ∀ y ∈ ss, PyData.strOk y = true) : Okx E (lft (inP neg (.str x) (.lst (ss.map .str)))) s Q ↔ Q (.bl (if neg then !decide (x ∈ ss) else decide (x ∈ ss))) s := by
  rw [ok_lft, inP_strs hx hs]
  simp
end
end Dn
/-! Pe: plain: for over triples, dict comprehensions, instances under way. -/
namespace Dn
open PySem
open L2 hiding bin
section
variable {s : S} {Q : PV → S → Prop} {QL : List PV → S → Prop} {QF : Fl → S → Prop} {QK : List (L2.Key × PV) → S → Prop} {E : PV → S → Prop} {ca cb cv ck : M PV} {fa : M Fl} {ra : M (List PV)} {i j k3 n : Nat} {env : Env} {st : List MO} {v d : PV} {m : Fn} {ds : List PV}
theorem fold_putP {α κ : Type} [DecidableEq κ] {fk : α → κ} {fv : α → PV} : ∀ (as : List α) (acc : List (κ × PV)), (as.map fk).Nodup → (∀ a ∈ as, fk a ∉ acc.map (·.1)) → as.foldl (fun acc a => putP acc (fk a) (fv a)) acc = acc ++ as.map fun a => (fk a, fv a)
  | [], acc, _, _ => by simp
  | a :: as, acc, hn, hf => by
    rw [List.map_cons, List.nodup_cons] at hn
    have e : putP acc (fk a) (fv a) = acc ++ [(fk a, fv a)] := by
      unfold putP
      rw [if_neg]
      intro z
      obtain ⟨p, hp, e⟩ := List.any_eq_true.mp z
      exact hf a List.mem_cons_self (List.mem_map.mpr ⟨p, hp, of_decide_eq_true e⟩)
    rw [List.foldl_cons, e, fold_putP as _ hn.2 (fun b hb => by
      rw [List.map_append]
      intro z
      rcases List.mem_append.mp z with z | z
      · exact hf b (List.mem_cons_of_mem _ hb) z
      · have z : fk b = fk a := List.mem_singleton.mp z
        exact hn.1 (z ▸ List.mem_map.mpr ⟨b, hb, rfl⟩)), List.map_cons, List.append_assoc]
    rfl
/-- a dict comprehension over different keys -/
theorem ok_dcMap {α : Type} {as : List α} {vs : List Nat} (g : α → PV) (fk : α → L2.Key) (fv : α → PV) (hw : ∀ x : PV, wip (env.set i (some (.val x))) vs = env) (hn : (as.map fk).Nodup) (hl : as.length ≤ sizeLine)
    (hk : ∀ a ∈ as, Ok ck ⟨env.set i (some (.val (g a))), st⟩ (fun y s1 => keyP y = some (fk a) ∧ s1 = ⟨env.set i (some (.val (g a))), st⟩)) (hv : ∀ a ∈ as, Ok cv ⟨env.set i (some (.val (g a))), st⟩ (fun y s1 => y = fv a ∧ s1 = ⟨env.set i (some (.val (g a))), st⟩)) (h : QK (as.map fun a => (fk a, fv a)) ⟨env, st⟩) :
    Okx E (dcGo i vs (ret true) ck cv (as.map g) []) ⟨env, st⟩ QK := by
  have e := dcGo_map g fk fv hw as [] (fun a ha => by
    obtain ⟨y, s1, e1, e2, rfl⟩ := (hk a ha).ex
    exact ⟨y, e1, e2⟩) (fun a ha => by
    obtain ⟨y, s1, e1, rfl, rfl⟩ := (hv a ha).ex
    exact e1) (by simpa using hl) fun acc k v => putP_len
  rw [fold_putP as [] hn (fun a _ => by simp), List.nil_append] at e
  unfold Okx
  rw [e]
  exact h
theorem ok_par2OV' {r : M (List PV)} {Q : Fl → S → Prop} : Okx E (par2OV' i j r ca) s Q ↔ Okx E r s (fun a s1 => Okx E ca s1 (fun b s2 => Q .nx ⟨(s2.env.set i (some (.own a))).set j (some (.val b)), s2.sto⟩)) := by
  unfold par2OV'
  rw [ok_bnd]
  exact ⟨fun h => h.imp fun a s' q => ok_bnd.mp q, fun h => h.imp fun a s' q => ok_bnd.mpr q⟩
theorem fputK_at {cs : List Str} {f c : Str} {ks : List Str} {vs : List PV} {rest : List MO} : fputK cs f v ⟨env, st ++ .ins c ks vs :: rest⟩ QF (.hnd st.length) ↔ (c ∈ cs ∧ ks.length < 1000) ∧ QF .nx ⟨env, st ++ .ins c (putKV f v ks vs).1 (putKV f v ks vs).2 :: rest⟩ := by
  unfold fputK
  have e : (st ++ MO.ins c ks vs :: rest)[st.length]? = some (.ins c ks vs) := by simp
  have e2 : ∀ mo, (st ++ MO.ins c ks vs :: rest).set st.length mo = st ++ mo :: rest := by simp
  simp only [e, e2]
theorem putKV_snoc {f : Str} : ∀ {ks : List Str} {vs : List PV}, f ∉ ks → ks.length = vs.length → putKV f v ks vs = (ks ++ [f], vs ++ [v])
  | [], [], _, _ => rfl
  | k :: ks, w :: vs, h, hl => by
    have h1 : ¬ k = f := fun e => h (by rw [e]; exact List.mem_cons_self)
    have ih := putKV_snoc (f := f) (ks := ks) (vs := vs) (fun m => h (List.mem_cons_of_mem _ m)) (by simpa using hl)
    unfold putKV
    rw [if_neg h1, ih]
    rfl
  | [], _ :: _, _, hl => by cases hl
  | _ :: _, [], _, hl => by cases hl
end
theorem ok_fIntB {b : Bool} : Okx E (lft (intP (.bl b))) s Q ↔ Q (.int (if b = true then 1 else 0)) s := by
  exact Iff.rfl
theorem sz0 : (0 ≤ sizeLine) = True := eq_true (by rw [sizeLine_eq]; decide)
theorem sz1 : (1 ≤ sizeLine) = True := eq_true (by rw [sizeLine_eq]; decide)
theorem sz2 : (2 ≤ sizeLine) = True := eq_true (by rw [sizeLine_eq]; decide)
theorem sz3 : (3 ≤ sizeLine) = True := eq_true (by rw [sizeLine_eq]; decide)
theorem sz4 : (4 ≤ sizeLine) = True := eq_true (by rw [sizeLine_eq]; decide)
theorem sz5 : (5 ≤ sizeLine) = True := eq_true (by rw [sizeLine_eq]; decide)
theorem sz6 : (6 ≤ sizeLine) = True := eq_true (by rw [sizeLine_eq]; decide)
theorem sz7 : (7 ≤ sizeLine) = True := eq_true (by rw [sizeLine_eq]; decide)
theorem sz8 : (8 ≤ sizeLine) = True := eq_true (by rw [sizeLine_eq]; decide)
theorem sz9 : (9 ≤ sizeLine) = True := eq_true (by rw [sizeLine_eq]; decide)
theorem sz10 : (10 ≤ sizeLine) = True := eq_true (by rw [sizeLine_eq]; decide)
theorem sz11 : (11 ≤ sizeLine) = True := eq_true (by rw [sizeLine_eq]; decide)
theorem sz12 : (12 ≤ sizeLine) = True := eq_true (by rw [sizeLine_eq]; decide)
end Dn
/-! L0: what laws without needs take of M1..M12 (markets, tables as dicts). -/
namespace Lw
open PySem Dn
open L2 hiding bin
theorem a20 {a b : PV} {Z : PV → Prop} : (∃ v, L2.atI [a, b] 0 = some v ∧ Z v) ↔ Z a := ⟨fun ⟨_, e, q⟩ => by cases e; exact q, fun q => ⟨_, rfl, q⟩⟩
theorem a21 {a b : PV} {Z : PV → Prop} : (∃ v, L2.atI [a, b] 1 = some v ∧ Z v) ↔ Z b := ⟨fun ⟨_, e, q⟩ => by cases e; exact q, fun q => ⟨_, rfl, q⟩⟩
abbrev KSM : List Str := ["own_currencies", "own_offices", "by_name"]
/-- a market: its currencies and its offices, both in ascending order -/
def mkt (cs : List Str) (os : List OfV) : PV := .obj "Market" KSM [.tup (cs.map .str), .tup (os.map OfV.pv), .dct (os.map fun o => .inr o.nm) (os.map OfV.pv)]
def optV : Option Int → PV
  | none => .non
  | some a => .int a
theorem isNonB_opt {a : Option Int} : isNonB (optV a) = a.isNone := by cases a <;> rfl
theorem mostV_opt {o : OfV} : o.mostV = optV o.most := by
  unfold OfV.mostV
  cases o.most <;> rfl
local macro_rules | `(tactic| walk_at "st") => `(tactic| try simp only [ok_ret, ok_bnd, ok_bin, ok_binL, ok_var, varK_val, varK_own, ok_brw, brwK_some, pv_val, pv_own, ok_asB, asBK_bl, ok_andT, ok_orT, ok_notT, ok_iteT, ok_andV, ok_notV, blK_bl,
  ok_argN, ok_argC, ok_fits, ok_tupM, ok_lstM, ok_parN, ok_parS, intK_int, ok_slM, ok_joinM, strK_str, ok_itemsM, ok_rngM, ok_seqM, seqK_nx, seqK_rt, seqK_bk, seqK_ct, ok_ifM, ok_retM, ok_dropM, ok_skipM, ok_asgM, ok_asgO, ok_par2, ok_par2VO, ok_par2OO, ok_par3,
  ok_callM, rtK_rt, rtK_nx, ok_loopM, ok_lcM, ok_dispM, ok_prsN, ok_prsC, ok_hget0, getK_some, ok_hputM, putK0, pc, pb, pl, ppb, ppl, plen, ok_add, ok_addS, ok_addT, ok_addL, ok_sub, ok_mul, ok_ixL, ok_ixT, ok_unp, unpK_tup, ok_set0, ok_setC, ok_app, ok_pop, ok_chk', chkK_some, flK_nx, flK_ct, flK_bk, flK_rt, sl_L, sl_T, sl_S, it_L, it_T, ok_sortL, ok_sortT, wip, ok_div, ok_mod, ok_pow, ok_rep, ok_ord, ok_fInt, ok_fAbs, ok_fNeg, ok_lenL, ok_lenT, ok_lenS, ok_fListL, ok_fListT, ok_fTupleL, ok_fTupleT, ok_eqI, ok_eqB, ok_eqS,
  okF_ok, okF_exc, ok_runM, ok_appA, ok_len1, ok_chain, isNonB_non, isNonB_int, isNonB_bl, isNonB_str, isNonB_tup, isNonB_lst, isNonB_obj, ok_isN, ok_max, ok_min, isi_int_int, isi_int_bl, isi_int_non, isi_int_str, isi_int_tup, isi_int_lst, isi_bool_int, isi_bool_bl, isi_str_str, isi_str_int, isi_str_bl, isi_str_non, isi_str_tup, isi_str_lst, isi_tuple_tup, isi_tuple_int, isi_tuple_bl, isi_tuple_non, isi_tuple_str, isi_tuple_lst,
  ok_conM, ok_fputM, fputK_new, conV_new, ok_methM,
  List.map_cons, List.map_nil, List.replicate_succ, List.replicate_zero, List.cons_append, List.nil_append, List.append_nil, List.getElem?_cons_zero, List.getElem?_cons_succ, List.set_cons_zero, List.set_cons_succ, Nat.reduceSub, decide_eq_true_eq, if_true, if_false, Bool.false_eq_true, Bool.not_true, Bool.not_false, beq_self_eq_true, Bool.true_eq_false, bne_self_eq_false, Bool.bne_true, Bool.bne_false, Nat.zero_add, Nat.reduceAdd, true_and, and_true, reduceCtorEq, List.length_cons, List.length_nil, ok_ordU, ok_ordS, f_name, f_ends, f_rate, f_fee, f_least, a20, a21, ok_itemsDM, itd_L, itd_T, itd_D])
section
variable {n : Nat} {o : OfV} {cs : List Str} {os : List OfV} {st : List MO} {s : S} {E : PV → S → Prop} {Q : PV → S → Prop}
theorem prp {tab : List (Str × Fn)} {m m' : Fn} {r : PV} (h0 : tab.lookup (Str.ofString "Office") = some m) (h1 : tab.lookup (Str.ofString "CappedOffice") = some m') (h : o.most = none → ∀ st, m n [o.pv] st = .ok r st) (h' : ∀ k, o.most = some k → ∀ st, m' n [o.pv] st = .ok r st) : Okx E (propM tab n o.pv) s Q ↔ Q r s := by
  cases hm : o.most with
  | none =>
    have h := h hm s.sto
    rw [OfV.pv_none hm] at h ⊢
    exact propM_obj h0 h
  | some k =>
    have h := h' k hm s.sto
    rw [OfV.pv_some hm] at h ⊢
    exact propM_obj h1 h
theorem eq_p_source : m_Office_source n [o.pv] st = .ok (.str o.src) st := by
  refine OkFx.eq ?_
  unfold m_Office_source
  refine okF_fnF rfl ?_
  unfold b_Office_source
  walk_at "st"
theorem eq_p_goal : m_Office_goal n [o.pv] st = .ok (.str o.dst) st := by
  refine OkFx.eq ?_
  unfold m_Office_goal
  refine okF_fnF rfl ?_
  unfold b_Office_goal
  walk_at "st"
theorem p_source : Okx E (propM tp_source n o.pv) s Q ↔ Q (.str o.src) s := prp rfl rfl (fun _ _ => eq_p_source) (fun _ _ _ => eq_p_source)
theorem p_goal : Okx E (propM tp_goal n o.pv) s Q ↔ Q (.str o.dst) s := prp rfl rfl (fun _ _ => eq_p_goal) (fun _ _ _ => eq_p_goal)
theorem g_cur : Okx E (fldM ["Market"] "own_currencies" (mkt cs os)) s Q ↔ Q (.tup (cs.map .str)) s := ok_fld (by unfold fldV mkt; rw [insOf_obj]; exact (if_pos (by decide +kernel)).trans rfl)
theorem g_off : Okx E (fldM ["Market"] "own_offices" (mkt cs os)) s Q ↔ Q (.tup (os.map OfV.pv)) s := ok_fld (by unfold fldV mkt; rw [insOf_obj]; exact (if_pos (by decide +kernel)).trans rfl)
theorem eq_p_cur : m_Market_currencies n [mkt cs os] st = .ok (.tup (cs.map .str)) st := by
  refine OkFx.eq ?_
  unfold m_Market_currencies
  refine okF_fnT rfl ?_
  unfold b_Market_currencies
  walk_at "st"
  rw [g_cur]
  show _ ∧ _
  rw [fin_self]
  exact ⟨rfl, rfl⟩
theorem eq_p_off : m_Market_offices n [mkt cs os] st = .ok (.tup (os.map OfV.pv)) st := by
  refine OkFx.eq ?_
  unfold m_Market_offices
  refine okF_fnT rfl ?_
  unfold b_Market_offices
  walk_at "st"
  rw [g_off]
  show _ ∧ _
  rw [fin_self]
  exact ⟨rfl, rfl⟩
theorem p_cur : Okx E (propM tp_currencies n (mkt cs os)) s Q ↔ Q (.tup (cs.map .str)) s := propM_obj rfl eq_p_cur
theorem p_off : Okx E (propM tp_offices n (mkt cs os)) s Q ↔ Q (.tup (os.map OfV.pv)) s := propM_obj rfl eq_p_off
end
theorem cut_take {ds : List PV} {k : Nat} : cutP ds none (some (k : Int)) = ds.take k := by
  unfold cutP
  have h0 : HT.sIx ds.length 0 none = 0 := rfl
  have h1 : HT.sIx ds.length ds.length (some (k : Int)) = min k ds.length := by
    unfold HT.sIx
    first
      | (simp; omega)
      | (dsimp only; split <;> omega)
  rw [h0, h1, List.drop_zero, Nat.sub_zero]
  rcases Nat.le_total k ds.length with h | h
  · rw [Nat.min_eq_left h]
  · rw [Nat.min_eq_right h, List.take_length, List.take_of_length_le h]
theorem enum_get {ds : List PV} {k : Nat} {x : PV} (h : (enumL 0 ds)[k]? = some x) : ∃ d, ds[k]? = some d ∧ x = .tup [.int (k : Int), d] := by
  have hk : k < ds.length := by
    have := (List.getElem?_eq_some_iff.mp h).1
    rw [enumL_length] at this
    exact this
  have e := enumL_get ds 0 k _ (List.getElem?_eq_getElem hk)
  rw [h] at e
  refine ⟨_, List.getElem?_eq_getElem hk, ?_⟩
  rw [Option.some.inj e, Nat.zero_add]
theorem last_get {st : List MO} {mo : MO} : (st ++ [mo])[st.length]? = some mo := by simp
theorem last_set {st : List MO} {mo mo' : MO} : (st ++ [mo]).set st.length mo' = st ++ [mo'] := by simp
/-- the market's shape: offices between its currencies -/
structure MkOk (cs : List Str) (os : List OfV) : Prop where
  wf : ∀ o ∈ os, o.Wf
  ends : ∀ o ∈ os, o.src ∈ cs ∧ o.dst ∈ cs
  nd : cs.Nodup
  cl : cs.length ≤ 4
  ol : os.length ≤ 20
  nm : ∀ c ∈ cs, Nm c
theorem pls_strs {r : List Str} : PV.pls (r.map .str) = true := pls_iff.mpr fun x hx => by
  obtain ⟨y, _, rfl⟩ := List.mem_map.mp hx
  rfl
/-- a table as a dict -/
def tabD (cs : List Str) (N : Tb) : List (L2.Key × PV) := cs.map fun c => (.inr c, optV (N c))
def setT (N : Tb) (c : Str) (a : Option Int) : Tb := fun x => if x = c then a else N x
theorem tab_get {cs : List Str} {N : Tb} {c : Str} (h : c ∈ cs) : valP (tabD cs N) (.inr c) = some (optV (N c)) := by
  induction cs with
  | nil => cases h
  | cons x cs ih =>
    unfold tabD valP
    rw [List.map_cons, List.find?_cons]
    by_cases e : x = c
    · subst e
      simp
    · have e2 : decide ((Sum.inr x : L2.Key) = Sum.inr c) = false := decide_eq_false fun z => e (Sum.inr.inj z)
      simp only [e2]
      rcases List.mem_cons.mp h with h | h
      · exact absurd h.symm e
      · exact ih h
theorem tab_put {cs : List Str} {N : Tb} {c : Str} {a : Option Int} (h : c ∈ cs) : putP (tabD cs N) (.inr c) (optV a) = tabD cs (setT N c a) := by
  unfold putP tabD
  rw [if_pos (List.any_eq_true.mpr ⟨(.inr c, optV (N c)), List.mem_map.mpr ⟨c, h, rfl⟩, decide_eq_true rfl⟩), List.map_map]
  refine List.map_congr_left fun x _ => ?_
  show (if (Sum.inr x : L2.Key) = Sum.inr c then ((Sum.inr x : L2.Key), optV a) else (Sum.inr x, optV (N x))) = (Sum.inr x, optV (setT N c a x))
  unfold setT
  by_cases e : x = c
  · rw [if_pos (by rw [e]), if_pos e]
  · rw [if_neg (fun z => e (Sum.inr.inj z)), if_neg e]
theorem nodup_inr {cs : List Str} (h : cs.Nodup) : (cs.map (Sum.inr : Str → L2.Key)).Nodup := by
  induction cs with
  | nil => simp
  | cons x cs ih =>
    rw [List.nodup_cons] at h
    rw [List.map_cons, List.nodup_cons]
    refine ⟨fun z => ?_, ih h.2⟩
    obtain ⟨y, hy, e⟩ := List.mem_map.mp z
    cases Sum.inr.inj e
    exact h.1 hy
theorem pv_plM {o : OfV} : o.pv.pl = true := by
  unfold OfV.pv
  cases o.most <;> rfl
theorem mkt_pl {cs : List Str} {os : List OfV} : (mkt cs os).pl = true := by
  unfold mkt
  rw [PV.pl]
  show (PV.pls (cs.map PV.str) && (PV.pls (os.map OfV.pv) && (PV.pls (os.map OfV.pv) && true))) = true
  have h : PV.pls (os.map OfV.pv) = true := pls_iff.mpr fun x hx => by
    obtain ⟨o, _, rfl⟩ := List.mem_map.mp hx
    exact pv_plM
  rw [pls_strs, h]
  rfl
theorem opt_pls {α : Type} {f : α → Option Int} {l : List α} : PV.pls (l.map fun x => optV (f x)) = true := pls_iff.mpr fun x hx => by
  obtain ⟨y, _, rfl⟩ := List.mem_map.mp hx
  cases f y <;> rfl
theorem tab_vals {cs : List Str} {N : Tb} : (tabD cs N).map (·.2) = cs.map fun c => optV (N c) := by
  unfold tabD
  rw [List.map_map]
  rfl
theorem zip_fs : ∀ kvs : List (L2.Key × PV), (kvs.map (·.1)).zip (kvs.map (·.2)) = kvs
  | [] => rfl
  | p :: kvs => by
    rw [List.map_cons, List.map_cons, List.zip_cons_cons, zip_fs kvs]
/-- the amounts as they are told -/
def amtV (cs : List Str) (N : Tb) : PV := .dct ((tabD cs N).map (·.1)) ((tabD cs N).map (·.2))
theorem amt_get {cs : List Str} {N : Tb} {c : Str} (h : c ∈ cs) {n : Nat} {tab : List (Str × Fn)} {s : S} {E : PV → S → Prop} {Q : PV → S → Prop} : Okx E (subO tab n (amtV cs N) (.str c)) s Q ↔ Q (optV (N c)) s := ok_subC (by rw [zip_fs]; exact tab_get h)
def holdV (c : Str) (a : Int) : PV := .tup [.str c, .int a]
end Lw
/-! M13: markets made. -/
namespace Lw
open PySem Dn
open L2 hiding bin
def byN (os : List OfV) (x : Str) : OfV := (os.find? fun o => decide (o.nm = x)).getD ⟨x, x, x, 1, 1, 0, 0, none⟩
def sortO (os : List OfV) : List OfV := (sortS (os.map (·.nm))).map (byN os)
theorem byN_self {os : List OfV} (hn : (os.map (·.nm)).Nodup) {o : OfV} (ho : o ∈ os) : byN os o.nm = o := by
  unfold byN
  induction os with
  | nil => cases ho
  | cons p os ih =>
    rw [List.map_cons, List.nodup_cons] at hn
    rw [List.find?_cons]
    by_cases e : p.nm = o.nm
    · rw [decide_eq_true e]
      rcases List.mem_cons.mp ho with rfl | h
      · rfl
      · exact absurd (List.mem_map.mpr ⟨o, h, e.symm⟩) hn.1
    · rw [decide_eq_false e]
      rcases List.mem_cons.mp ho with rfl | h
      · exact absurd rfl e
      · exact ih hn.2 h
theorem map_byN {os : List OfV} (hn : (os.map (·.nm)).Nodup) : (os.map (·.nm)).map (byN os) = os := by
  rw [List.map_map]
  have : ∀ l : List OfV, (∀ o ∈ l, o ∈ os) → l.map (byN os ∘ (·.nm)) = l := by
    intro l
    induction l with
    | nil => exact fun _ => rfl
    | cons o l ih =>
      intro h
      rw [List.map_cons, ih fun x hx => h x (List.mem_cons_of_mem _ hx)]
      show byN os o.nm :: l = o :: l
      rw [byN_self hn (h o List.mem_cons_self)]
  exact this os fun _ h => h
theorem sortO_perm {os : List OfV} (hn : (os.map (·.nm)).Nodup) : (sortO os).Perm os := by
  have h := (sortS_perm (os.map (·.nm))).map (byN os)
  rw [map_byN hn] at h
  exact h
/-- known offices by name -/
def known (os : List OfV) : List (L2.Key × PV) := os.map fun o => (.inr o.nm, o.pv)
theorem known_none {os : List OfV} {x : Str} (h : x ∉ os.map (·.nm)) : valP (known os) (.inr x) = none := by
  refine valP_none.mpr fun v hm => ?_
  obtain ⟨o, ho, e⟩ := List.mem_map.mp hm
  exact h (List.mem_map.mpr ⟨o, ho, Sum.inr.inj (congrArg (·.1) e)⟩)
theorem known_put {os : List OfV} {o : OfV} (h : o.nm ∉ os.map (·.nm)) : putP (known os) (.inr o.nm) o.pv = known (os ++ [o]) := by
  unfold putP
  rw [if_neg]
  · unfold known
    rw [List.map_append]
    rfl
  · intro z
    obtain ⟨p, hp, e⟩ := List.any_eq_true.mp z
    obtain ⟨q, hq, rfl⟩ := List.mem_map.mp hp
    exact h (List.mem_map.mpr ⟨q, hq, Sum.inr.inj (of_decide_eq_true e)⟩)
theorem known_get {os : List OfV} {x : Str} (hx : x ∈ os.map (·.nm)) : valP (known os) (.inr x) = some (byN os x).pv := by
  unfold known valP byN
  induction os with
  | nil => cases hx
  | cons o os ih =>
    rw [List.map_cons, List.find?_cons, List.find?_cons]
    by_cases e : o.nm = x
    · rw [decide_eq_true e, decide_eq_true (show (Sum.inr o.nm : L2.Key) = Sum.inr x by rw [e])]
      rfl
    · rw [decide_eq_false e, decide_eq_false (fun z => e (Sum.inr.inj z))]
      refine ih ?_
      rcases List.mem_cons.mp hx with h | h
      · exact absurd h.symm e
      · exact h
theorem known_keys {os : List OfV} : (known os).map (·.1) = (os.map (·.nm)).map .inr := by
  unfold known
  rw [List.map_map, List.map_map]
  rfl
theorem pk_m1 {v : PV} : putKV "own_currencies" v [] [] = ((["own_currencies"] : List Str), ([v] : List PV)) := rfl
theorem pk_m2 {a v : PV} : putKV "own_offices" v ["own_currencies"] [a] = ((["own_currencies", "own_offices"] : List Str), ([a, v] : List PV)) := putKV_snoc (by decide +kernel) rfl
theorem pk_m3 {a b v : PV} : putKV "by_name" v ["own_currencies", "own_offices"] [a, b] = (KSM, [a, b, v]) := putKV_snoc (by decide +kernel) rfl
theorem nodup_at {ss : List Str} (h : ss.Nodup) {k : Nat} {x : Str} (hx : ss[k]? = some x) : x ∉ ss.take k := by
  intro hm
  obtain ⟨hk, e⟩ := List.getElem?_eq_some_iff.mp hx
  obtain ⟨j, hj, e2⟩ := List.mem_iff_getElem.mp hm
  rw [List.length_take] at hj
  rw [List.getElem_take] at e2
  have := nodup_inj h (by omega) hk (e2.trans e.symm)
  omega
local macro_rules | `(tactic| walk_at "st") => `(tactic| try simp only [ok_ret, ok_bnd, ok_bin, ok_binL, ok_var, varK_val, varK_own, ok_brw, brwK_some, pv_val, pv_own, ok_asB, asBK_bl, ok_andT, ok_orT, ok_notT, ok_iteT, ok_andV, ok_notV, blK_bl,
  ok_argN, ok_argC, ok_fits, ok_tupM, ok_lstM, ok_parN, ok_parS, intK_int, ok_slM, ok_joinM, strK_str, ok_itemsM, ok_rngM, ok_seqM, seqK_nx, seqK_rt, seqK_bk, seqK_ct, ok_ifM, ok_retM, ok_dropM, ok_skipM, ok_asgM, ok_asgO, ok_par2, ok_par2VO, ok_par2OO, ok_par3,
  ok_callM, rtK_rt, rtK_nx, ok_loopM, ok_lcM, ok_dispM, ok_prsN, ok_prsC, ok_hget0, getK_some, ok_hputM, putK0, pc, pb, pl, ppb, ppl, plen, ok_add, ok_addS, ok_addT, ok_addL, ok_sub, ok_mul, ok_ixL, ok_ixT, ok_unp, unpK_tup, ok_set0, ok_setC, ok_app, ok_pop, ok_chk', chkK_some, flK_nx, flK_ct, flK_bk, flK_rt, sl_L, sl_T, sl_S, it_L, it_T, ok_sortL, ok_sortT, wip, ok_div, ok_mod, ok_pow, ok_rep, ok_ord, ok_fInt, ok_fAbs, ok_fNeg, ok_lenL, ok_lenT, ok_lenS, ok_fListL, ok_fListT, ok_fTupleL, ok_fTupleT, ok_eqI, ok_eqB, ok_eqS,
  okF_ok, okF_exc, ok_runM, ok_appA, ok_len1, ok_chain, isNonB_non, isNonB_int, isNonB_bl, isNonB_str, isNonB_tup, isNonB_lst, isNonB_obj, ok_isN, ok_max, ok_min, isi_int_int, isi_int_bl, isi_int_non, isi_int_str, isi_int_tup, isi_int_lst, isi_bool_int, isi_bool_bl, isi_str_str, isi_str_int, isi_str_bl, isi_str_non, isi_str_tup, isi_str_lst, isi_tuple_tup, isi_tuple_int, isi_tuple_bl, isi_tuple_non, isi_tuple_str, isi_tuple_lst,
  ok_conM, ok_fputM, fputK_new, conV_new, ok_methM,
  List.map_cons, List.map_nil, List.replicate_succ, List.replicate_zero, List.cons_append, List.nil_append, List.append_nil, List.getElem?_cons_zero, List.getElem?_cons_succ, List.set_cons_zero, List.set_cons_succ, Nat.reduceSub, decide_eq_true_eq, if_true, if_false, Bool.false_eq_true, Bool.not_true, Bool.not_false, beq_self_eq_true, Bool.true_eq_false, bne_self_eq_false, Bool.bne_true, Bool.bne_false, Nat.zero_add, Nat.reduceAdd, true_and, and_true, reduceCtorEq, List.length_cons, List.length_nil, ok_ordU, ok_ordS, f_name, f_ends, f_rate, f_fee, f_least, a20, a21, ok_itemsDM, itd_L, itd_T, itd_D, p_source, p_goal, p_cur, p_off, ok_subT, ok_subL, ok_truT, tru_bl, ok_inTS, ok_loopU, ok_enumM, en_L, en_T, ok_lenUL, ok_lenUT, ok_hndM, ok_dcL])
local macro_rules | `(tactic| walk_at "sx") => `(tactic| try simp only [ok_ret, ok_bnd, ok_bin, ok_binL, ok_var, varK_val, varK_own, ok_brw, brwK_some, pv_val, pv_own, ok_asB, asBK_bl, ok_andT, ok_orT, ok_notT, ok_iteT, ok_andV, ok_notV, blK_bl,
  ok_argN, ok_argC, ok_fits, ok_tupM, ok_lstM, ok_parN, ok_parS, intK_int, ok_slM, ok_joinM, strK_str, ok_itemsM, ok_rngM, seqK_nx, seqK_rt, seqK_bk, seqK_ct, ok_ifM, ok_retM, ok_dropM, ok_skipM, ok_asgM, ok_asgO, ok_par2, ok_par2VO, ok_par2OO, ok_par3,
  ok_callM, rtK_rt, rtK_nx, ok_loopM, ok_lcM, ok_dispM, ok_prsN, ok_prsC, ok_hget0, getK_some, ok_hputM, putK0, pc, pb, pl, ppb, ppl, plen, ok_add, ok_addS, ok_addT, ok_addL, ok_sub, ok_mul, ok_ixL, ok_ixT, ok_unp, unpK_tup, ok_set0, ok_setC, ok_app, ok_pop, ok_chk', chkK_some, flK_nx, flK_ct, flK_bk, flK_rt, sl_L, sl_T, sl_S, it_L, it_T, ok_sortL, ok_sortT, wip, ok_div, ok_mod, ok_pow, ok_rep, ok_ord, ok_fInt, ok_fAbs, ok_fNeg, ok_lenL, ok_lenT, ok_lenS, ok_fListL, ok_fListT, ok_fTupleL, ok_fTupleT, ok_eqI, ok_eqB, ok_eqS,
  okF_ok, okF_exc, ok_runM, ok_appA, ok_len1, ok_chain, isNonB_non, isNonB_int, isNonB_bl, isNonB_str, isNonB_tup, isNonB_lst, isNonB_obj, ok_isN, ok_max, ok_min, isi_int_int, isi_int_bl, isi_int_non, isi_int_str, isi_int_tup, isi_int_lst, isi_bool_int, isi_bool_bl, isi_str_str, isi_str_int, isi_str_bl, isi_str_non, isi_str_tup, isi_str_lst, isi_tuple_tup, isi_tuple_int, isi_tuple_bl, isi_tuple_non, isi_tuple_str, isi_tuple_lst,
  ok_conM, ok_fputM, fputK_new, conV_new, ok_methM,
  List.map_cons, List.map_nil, List.replicate_succ, List.replicate_zero, List.cons_append, List.nil_append, List.append_nil, List.getElem?_cons_zero, List.getElem?_cons_succ, List.set_cons_zero, List.set_cons_succ, Nat.reduceSub, decide_eq_true_eq, if_true, if_false, Bool.false_eq_true, Bool.not_true, Bool.not_false, beq_self_eq_true, Bool.true_eq_false, bne_self_eq_false, Bool.bne_true, Bool.bne_false, Nat.zero_add, Nat.reduceAdd, true_and, and_true, reduceCtorEq, List.length_cons, List.length_nil, ok_ordU, ok_ordS, f_name, f_ends, f_rate, f_fee, f_least, a20, a21, ok_itemsDM, itd_L, itd_T, itd_D, p_source, p_goal, p_cur, p_off, ok_subT, ok_subL, ok_truT, tru_bl, ok_inTS, ok_loopU, ok_enumM, en_L, en_T, ok_lenUL, ok_lenUT, ok_hndM, ok_dcL])
section
variable {n : Nat} {cs : List Str} {os : List OfV} {st : List MO}
theorem iso_off {s : S} {E : PV → S → Prop} {Q : PV → S → Prop} {o : OfV} {tab : List (Str × Bool)} {b : Bool} (h0 : tab.lookup (Str.ofString "Office") = some b) (h1 : tab.lookup (Str.ofString "CappedOffice") = some b) : Okx E (isoM tab o.pv) s Q ↔ Q (.bl b) s := by
  unfold Okx isoM
  cases hm : o.most with
  | none => rw [OfV.pv_none hm]; simp only [insOf_obj, h0]
  | some k => rw [OfV.pv_some hm]; simp only [insOf_obj, h1]
theorem eq_is_list {xs : List PV} : m_is_list n [.lst xs] st = .ok (.bl true) st := by
  refine OkFx.eq ?_
  unfold m_is_list
  refine okF_fnT rfl ?_
  unfold b_is_list
  walk_at "st"
  rw [ok_isiT (t := "list") (r := true) rfl (by decide +kernel)]
  show _ ∧ _
  rw [fin_self]
  exact ⟨rfl, rfl⟩
set_option maxHeartbeats 8000000 in
theorem eq_need_currencies {ss : List Str} (h0 : ss ≠ []) (hl : ss.length ≤ 4) (hm : ∀ x ∈ ss, Nm x) (hn : ss.Nodup) : m_need_currencies n [.lst (ss.map .str)] st = .ok (.tup ((sortS ss).map .str)) st := by
  have hz : sizeLine = 16777216 := sizeLine_eq
  have hl0 : 0 < ss.length := List.length_pos_iff.mpr h0
  refine OkFx.eq ?_
  unfold m_need_currencies
  refine okF_fnT rfl ?_
  unfold b_need_currencies
  refine ok_seq ?_
  walk_at "sx"
  rw [eq_is_list]
  walk_at "sx"
  rw [if_neg (by simp; omega)]
  walk_at "sx"
  refine ok_seq ?_
  walk_at "sx"
  refine ok_for (fun k s => ∃ e1 e2 : Option SV, s = ⟨[some (.val (.lst (ss.map .str))), e1, e2], st⟩) ⟨none, none, rfl⟩ ?_ ?_
  · rintro k x s hx ⟨e1, e2, rfl⟩
    rw [List.getElem?_map] at hx
    obtain ⟨y, hy, rfl⟩ := Option.map_eq_some_iff.mp hx
    walk_at "st"
    rw [eq_need_name (hm y (List.mem_of_getElem? hy))]
    walk_at "st"
    exact ⟨_, _, rfl⟩
  rintro s ⟨e1, e2, rfl⟩
  walk_at "sx"
  refine ok_seq ?_
  walk_at "sx"
  refine ok_for2 (fun k s => ∃ e1 e2 : Option SV, s = ⟨[some (.val (.lst (ss.map .str))), e1, e2], st⟩) ⟨e1, e2, rfl⟩ ?_ ?_
  · rintro k x s hx ⟨e1, e2, rfl⟩
    obtain ⟨d, hd, rfl⟩ := enum_get hx
    rw [List.getElem?_map] at hd
    obtain ⟨y, hy, rfl⟩ := Option.map_eq_some_iff.mp hd
    refine ⟨_, _, rfl, ?_⟩
    walk_at "st"
    rw [cut_take, ← List.map_take, ok_inL, ok_inLS (hm y (List.mem_of_getElem? hy)).sOk.1 (fun z hz => (hm z (List.mem_of_mem_take hz)).sOk.1), decide_eq_false (nodup_at hn hy)]
    walk_at "st"
    exact ⟨_, _, rfl⟩
  rintro s ⟨e1, e2, rfl⟩
  walk_at "st"
  rw [if_neg (by simp; omega)]
  rw [ok_sortUL]
  walk_at "st"
  rw [fin_self]
  exact ⟨rfl, rfl⟩
theorem eq_need_ends {o : OfV} (h : o.src ∈ cs ∧ o.dst ∈ cs) : m_need_ends n [.tup (cs.map .str), o.pv] st = .ok .non st := by
  have hz : sizeLine = 16777216 := sizeLine_eq
  refine OkFx.eq ?_
  unfold m_need_ends
  refine okF_fnT rfl ?_
  unfold b_need_ends
  walk_at "st"
  refine ⟨by omega, ?_⟩
  refine ok_for (fun k s => ∃ e2 : Option SV, s = ⟨[some (.val (.tup (cs.map .str))), some (.val o.pv), e2], st⟩) ⟨none, rfl⟩ ?_ ?_
  · rintro k x s hx ⟨e2, rfl⟩
    obtain ⟨y, rfl, hy⟩ : ∃ y : Str, x = .str y ∧ y ∈ cs := by
      have := List.mem_of_getElem? hx
      simp only [List.mem_cons, List.not_mem_nil, or_false] at this
      rcases this with rfl | rfl
      · exact ⟨_, rfl, h.1⟩
      · exact ⟨_, rfl, h.2⟩
    walk_at "st"
    simp only [hy, decide_true, Bool.not_true, Bool.false_eq_true, if_false, if_true]
    walk_at "st"
    exact ⟨_, rfl⟩
  rintro s ⟨e2, rfl⟩
  walk_at "st"
  show _ ∧ _
  rw [fin_self]
  exact ⟨rfl, rfl⟩
set_option maxHeartbeats 8000000 in
theorem eq_need_offices (he : ∀ o ∈ os, o.src ∈ cs ∧ o.dst ∈ cs) (hn : (os.map (·.nm)).Nodup) (hl : os.length ≤ 20) : m_need_offices n [.tup (cs.map .str), .lst (os.map OfV.pv)] st = .ok (.tup ((sortO os).map OfV.pv)) st := by
  have hz : sizeLine = 16777216 := sizeLine_eq
  refine OkFx.eq ?_
  unfold m_need_offices
  refine okF_fnT rfl ?_
  unfold b_need_offices
  refine ok_seq ?_
  walk_at "sx"
  rw [eq_is_list]
  walk_at "sx"
  refine ok_seq ?_
  walk_at "sx"
  refine ⟨by omega, ?_⟩
  refine ok_seq ?_
  walk_at "sx"
  refine ok_for (fun k s => ∃ e3 e4 : Option SV, s = ⟨[some (.val (.tup (cs.map .str))), some (.val (.lst (os.map OfV.pv))), some (.val (.hnd st.length)), e3, e4], st ++ [.dic (known (os.take k))]⟩) ⟨none, none, rfl⟩ ?_ ?_
  · rintro k x s hx ⟨e3, e4, rfl⟩
    rw [List.getElem?_map] at hx
    obtain ⟨o, ho, rfl⟩ := Option.map_eq_some_iff.mp hx
    have hmo := List.mem_of_getElem? ho
    have hk : k < os.length := (List.getElem?_eq_some_iff.mp ho).1
    have ht : os.take (k + 1) = os.take k ++ [o] := by
      rw [List.take_succ, ho]
      rfl
    have hnn : o.nm ∉ (os.take k).map (·.nm) := by
      rw [List.map_take]
      exact nodup_at hn (by rw [List.getElem?_map, ho]; rfl)
    walk_at "st"
    rw [iso_off (b := true) rfl rfl]
    walk_at "st"
    rw [eq_need_ends (he o hmo)]
    walk_at "st"
    rw [ok_inH last_get, known_none hnn]
    walk_at "st"
    rw [ok_dputM]
    walk_at "st"
    rw [dputK_dic last_get, last_set]
    refine ⟨by unfold known; rw [List.length_map, List.length_take]; omega, some (.val o.pv), e4, ?_⟩
    rw [known_put hnn, ← ht]
  rintro s ⟨e3, e4, rfl⟩
  rw [List.length_map, List.take_length]
  have hkl : (known os).length = os.length := by unfold known; rw [List.length_map]
  walk_at "st"
  rw [ok_lenUD (kvs := known os) (by unfold dicP; simp) (by unfold insOf; simp)]
  walk_at "st"
  rw [hkl, if_neg (by simp; omega)]
  rw [ok_sortD (kvs := known os) (zs := os.map (·.nm)) (by unfold dicP; simp) known_keys (by rw [List.length_map]; omega)]
  walk_at "st"
  have hsl : (sortS (os.map (·.nm))).length = os.length := by rw [sortS_length, List.length_map]
  refine ok_lcT (i := 4) (vs := [4]) (env := [some (.val (.tup (cs.map .str))), some (.val (.lst (os.map OfV.pv))), some (.val (.hnd st.length)), e3, none]) (st := st ++ [.dic (known os)]) (as := sortS (os.map (·.nm))) PV.str (fun _ => true) (fun x => (byN os x).pv) (by rfl) (by simp) (by rw [hsl]; omega) (fun _ => by rfl) (fun c hc => ?_) (fun c hc _ => ?_) ?_
  · walk_at "st"
  · walk_at "st"
    rw [ok_subH last_get (known_get ((sortS_perm _).mem_iff.mp hc))]
    exact ⟨rfl, rfl⟩
  · rw [filter_true]
    have e : (sortS (os.map (·.nm))).map (fun x => (byN os x).pv) = (sortO os).map OfV.pv := by
      unfold sortO
      rw [List.map_map]
      rfl
    rw [e]
    walk_at "st"
    rw [fin_pl]
    · exact ⟨rfl, rfl⟩
    · rw [PV.pl]
      exact pls_iff.mpr fun x hx => by
        obtain ⟨o, _, rfl⟩ := List.mem_map.mp hx
        exact pv_plM
end
end Lw
/-! M14: the law's market made. -/
namespace Lw
open PySem Dn
open L2 hiding bin
def OfV.r8 (o : OfV) : PV := .tup [.str o.nm, .str o.src, .str o.dst, .int o.p, .int o.q, .int o.fee, .int o.least, o.mostV]
def rawV (ss : List Str) (os : List OfV) : PV := .dct [.inr "ends", .inr "offices"] [.lst (ss.map .str), .lst (os.map OfV.r8)]
section
variable {a b c d e f g h : PV} {Z : PV → Prop}
theorem a80 : (∃ v, L2.atI [a, b, c, d, e, f, g, h] 0 = some v ∧ Z v) ↔ Z a := ⟨fun ⟨_, e, q⟩ => by cases e; exact q, fun q => ⟨_, rfl, q⟩⟩
theorem a81 : (∃ v, L2.atI [a, b, c, d, e, f, g, h] 1 = some v ∧ Z v) ↔ Z b := ⟨fun ⟨_, e, q⟩ => by cases e; exact q, fun q => ⟨_, rfl, q⟩⟩
theorem a82 : (∃ v, L2.atI [a, b, c, d, e, f, g, h] 2 = some v ∧ Z v) ↔ Z c := ⟨fun ⟨_, e, q⟩ => by cases e; exact q, fun q => ⟨_, rfl, q⟩⟩
theorem a83 : (∃ v, L2.atI [a, b, c, d, e, f, g, h] 3 = some v ∧ Z v) ↔ Z d := ⟨fun ⟨_, e, q⟩ => by cases e; exact q, fun q => ⟨_, rfl, q⟩⟩
theorem a84 : (∃ v, L2.atI [a, b, c, d, e, f, g, h] 4 = some v ∧ Z v) ↔ Z e := ⟨fun ⟨_, e, q⟩ => by cases e; exact q, fun q => ⟨_, rfl, q⟩⟩
theorem a85 : (∃ v, L2.atI [a, b, c, d, e, f, g, h] 5 = some v ∧ Z v) ↔ Z f := ⟨fun ⟨_, e, q⟩ => by cases e; exact q, fun q => ⟨_, rfl, q⟩⟩
theorem a86 : (∃ v, L2.atI [a, b, c, d, e, f, g, h] 6 = some v ∧ Z v) ↔ Z g := ⟨fun ⟨_, e, q⟩ => by cases e; exact q, fun q => ⟨_, rfl, q⟩⟩
theorem a87 : (∃ v, L2.atI [a, b, c, d, e, f, g, h] 7 = some v ∧ Z v) ↔ Z h := ⟨fun ⟨_, e, q⟩ => by cases e; exact q, fun q => ⟨_, rfl, q⟩⟩
end
theorem obj_frz {c : Str} {ks : List Str} {vs : List PV} {n : Nat} {st : List MO} (h : PV.pls vs = true) : (PV.obj c ks vs).frz n st = .obj c ks vs := frz_pl (by rw [PV.pl]; exact h)
theorem mkt_frz {st : List MO} {cs : List Str} {os : List OfV} : (PV.obj "Market" KSM [.tup (cs.map .str), .tup (os.map OfV.pv), .hnd (st.length + 2)]).frz st.length (st ++ (.gone :: .gone :: [.dic (known os)])) = mkt cs os := by
  have e2 : (st ++ (MO.gone :: .gone :: [.dic (known os)]))[st.length + 2]? = some (.dic (known os)) := by
    rw [List.getElem?_append_right (Nat.le_add_right _ _), Nat.add_sub_cancel_left]
    rfl
  have h1 : (PV.tup (cs.map .str)).pl = true := by rw [PV.pl]; exact pls_strs
  have h2 : (PV.tup (os.map OfV.pv)).pl = true := by
    rw [PV.pl]
    exact pls_iff.mpr fun x hx => by
      obtain ⟨o, _, rfl⟩ := List.mem_map.mp hx
      exact pv_plM
  unfold mkt
  rw [PV.frz, PV.frzs, PV.frzs, PV.frzs, PV.frzs, frz_pl h1, frz_pl h2, PV.frz, if_pos (Nat.le_add_right _ _), e2]
  unfold known
  simp only [List.map_map]
  rfl
local macro_rules | `(tactic| walk_at "st") => `(tactic| try simp only [ok_ret, ok_bnd, ok_bin, ok_binL, ok_var, varK_val, varK_own, ok_brw, brwK_some, pv_val, pv_own, ok_asB, asBK_bl, ok_andT, ok_orT, ok_notT, ok_iteT, ok_andV, ok_notV, blK_bl,
  ok_argN, ok_argC, ok_fits, ok_tupM, ok_lstM, ok_parN, ok_parS, intK_int, ok_slM, ok_joinM, strK_str, ok_itemsM, ok_rngM, ok_seqM, seqK_nx, seqK_rt, seqK_bk, seqK_ct, ok_ifM, ok_retM, ok_dropM, ok_skipM, ok_asgM, ok_asgO, ok_par2, ok_par2VO, ok_par2OO, ok_par3,
  ok_callM, rtK_rt, rtK_nx, ok_loopM, ok_lcM, ok_dispM, ok_prsN, ok_prsC, ok_hget0, getK_some, ok_hputM, putK0, pc, pb, pl, ppb, ppl, plen, ok_add, ok_addS, ok_addT, ok_addL, ok_sub, ok_mul, ok_ixL, ok_ixT, ok_unp, unpK_tup, ok_set0, ok_setC, ok_app, ok_pop, ok_chk', chkK_some, flK_nx, flK_ct, flK_bk, flK_rt, sl_L, sl_T, sl_S, it_L, it_T, ok_sortL, ok_sortT, wip, ok_div, ok_mod, ok_pow, ok_rep, ok_ord, ok_fInt, ok_fAbs, ok_fNeg, ok_lenL, ok_lenT, ok_lenS, ok_fListL, ok_fListT, ok_fTupleL, ok_fTupleT, ok_eqI, ok_eqB, ok_eqS,
  okF_ok, okF_exc, ok_runM, ok_appA, ok_len1, ok_chain, isNonB_non, isNonB_int, isNonB_bl, isNonB_str, isNonB_tup, isNonB_lst, isNonB_obj, ok_isN, ok_max, ok_min, isi_int_int, isi_int_bl, isi_int_non, isi_int_str, isi_int_tup, isi_int_lst, isi_bool_int, isi_bool_bl, isi_str_str, isi_str_int, isi_str_bl, isi_str_non, isi_str_tup, isi_str_lst, isi_tuple_tup, isi_tuple_int, isi_tuple_bl, isi_tuple_non, isi_tuple_str, isi_tuple_lst,
  ok_conM, ok_fputM, fputK_new, conV_new, ok_methM,
  List.map_cons, List.map_nil, List.replicate_succ, List.replicate_zero, List.cons_append, List.nil_append, List.append_nil, List.getElem?_cons_zero, List.getElem?_cons_succ, List.set_cons_zero, List.set_cons_succ, Nat.reduceSub, decide_eq_true_eq, if_true, if_false, Bool.false_eq_true, Bool.not_true, Bool.not_false, beq_self_eq_true, Bool.true_eq_false, bne_self_eq_false, Bool.bne_true, Bool.bne_false, Nat.zero_add, Nat.reduceAdd, true_and, and_true, reduceCtorEq, List.length_cons, List.length_nil, ok_ordU, ok_ordS, f_name, f_ends, f_rate, f_fee, f_least, a20, a21, ok_itemsDM, itd_L, itd_T, itd_D, p_source, p_goal, p_cur, p_off, ok_subT, ok_subL, ok_truT, tru_bl, ok_inTS, ok_loopU, ok_enumM, en_L, en_T, ok_lenUL, ok_lenUT, ok_hndM, ok_dcL, a80, a81, a82, a83, a84, a85, a86, a87])
local macro_rules | `(tactic| walk_at "sx") => `(tactic| try simp only [ok_ret, ok_bnd, ok_bin, ok_binL, ok_var, varK_val, varK_own, ok_brw, brwK_some, pv_val, pv_own, ok_asB, asBK_bl, ok_andT, ok_orT, ok_notT, ok_iteT, ok_andV, ok_notV, blK_bl,
  ok_argN, ok_argC, ok_fits, ok_tupM, ok_lstM, ok_parN, ok_parS, intK_int, ok_slM, ok_joinM, strK_str, ok_itemsM, ok_rngM, seqK_nx, seqK_rt, seqK_bk, seqK_ct, ok_ifM, ok_retM, ok_dropM, ok_skipM, ok_asgM, ok_asgO, ok_par2, ok_par2VO, ok_par2OO, ok_par3,
  ok_callM, rtK_rt, rtK_nx, ok_loopM, ok_lcM, ok_dispM, ok_prsN, ok_prsC, ok_hget0, getK_some, ok_hputM, putK0, pc, pb, pl, ppb, ppl, plen, ok_add, ok_addS, ok_addT, ok_addL, ok_sub, ok_mul, ok_ixL, ok_ixT, ok_unp, unpK_tup, ok_set0, ok_setC, ok_app, ok_pop, ok_chk', chkK_some, flK_nx, flK_ct, flK_bk, flK_rt, sl_L, sl_T, sl_S, it_L, it_T, ok_sortL, ok_sortT, wip, ok_div, ok_mod, ok_pow, ok_rep, ok_ord, ok_fInt, ok_fAbs, ok_fNeg, ok_lenL, ok_lenT, ok_lenS, ok_fListL, ok_fListT, ok_fTupleL, ok_fTupleT, ok_eqI, ok_eqB, ok_eqS,
  okF_ok, okF_exc, ok_runM, ok_appA, ok_len1, ok_chain, isNonB_non, isNonB_int, isNonB_bl, isNonB_str, isNonB_tup, isNonB_lst, isNonB_obj, ok_isN, ok_max, ok_min, isi_int_int, isi_int_bl, isi_int_non, isi_int_str, isi_int_tup, isi_int_lst, isi_bool_int, isi_bool_bl, isi_str_str, isi_str_int, isi_str_bl, isi_str_non, isi_str_tup, isi_str_lst, isi_tuple_tup, isi_tuple_int, isi_tuple_bl, isi_tuple_non, isi_tuple_str, isi_tuple_lst,
  ok_conM, ok_fputM, fputK_new, conV_new, ok_methM,
  List.map_cons, List.map_nil, List.replicate_succ, List.replicate_zero, List.cons_append, List.nil_append, List.append_nil, List.getElem?_cons_zero, List.getElem?_cons_succ, List.set_cons_zero, List.set_cons_succ, Nat.reduceSub, decide_eq_true_eq, if_true, if_false, Bool.false_eq_true, Bool.not_true, Bool.not_false, beq_self_eq_true, Bool.true_eq_false, bne_self_eq_false, Bool.bne_true, Bool.bne_false, Nat.zero_add, Nat.reduceAdd, true_and, and_true, reduceCtorEq, List.length_cons, List.length_nil, ok_ordU, ok_ordS, f_name, f_ends, f_rate, f_fee, f_least, a20, a21, ok_itemsDM, itd_L, itd_T, itd_D, p_source, p_goal, p_cur, p_off, ok_subT, ok_subL, ok_truT, tru_bl, ok_inTS, ok_loopU, ok_enumM, en_L, en_T, ok_lenUL, ok_lenUT, ok_hndM, ok_dcL, a80, a81, a82, a83, a84, a85, a86, a87])
section
variable {n : Nat} {cs : List Str} {os : List OfV} {st : List MO}
set_option maxHeartbeats 8000000 in
theorem eq_Market_init {ss : List Str} (h0 : ss ≠ []) (hsl : ss.length ≤ 4) (hm : ∀ x ∈ ss, Nm x) (hns : ss.Nodup) (he : ∀ o ∈ os, o.src ∈ ss ∧ o.dst ∈ ss) (hn : (os.map (·.nm)).Nodup) (hl : os.length ≤ 20) :
    m_Market_init n [.hnd st.length, .lst (ss.map .str), .lst (os.map OfV.pv)] (mkS st "Market" [] []) = .ok .non (st ++ (.ins "Market" KSM [.tup ((sortS ss).map .str), .tup ((sortO os).map OfV.pv), .hnd (st.length + 2)] :: .own st.length :: [.dic (known (sortO os))])) := by
  have hz : sizeLine = 16777216 := sizeLine_eq
  refine OkFx.eq ?_
  unfold m_Market_init
  refine okF_fnF rfl ?_
  unfold b_Market_init
  refine ok_seq ?_
  walk_at "sx"
  rw [eq_need_currencies h0 hsl hm hns]
  walk_at "sx"
  refine ⟨⟨by decide +kernel, by decide⟩, ?_⟩
  rw [pk_m1]
  refine ok_seq ?_
  walk_at "sx"
  rw [ok_fld (v := .tup ((sortS ss).map .str)) (by rw [fldV_new]; exact (if_pos (by decide +kernel)).trans rfl)]
  walk_at "sx"
  rw [eq_need_offices (fun o ho => ⟨(sortS_perm ss).mem_iff.mpr (he o ho).1, (sortS_perm ss).mem_iff.mpr (he o ho).2⟩) hn hl]
  walk_at "sx"
  refine ⟨⟨by decide +kernel, by decide⟩, ?_⟩
  rw [pk_m2]
  walk_at "sx"
  rw [ok_fld (v := .tup ((sortO os).map OfV.pv)) (by rw [fldV_new]; exact (if_pos (by decide +kernel)).trans rfl)]
  walk_at "sx"
  have hperm := sortO_perm hn
  refine ok_dcMap OfV.pv (fun o => .inr o.nm) OfV.pv (fun _ => rfl) (by
    have := nodup_inr ((hperm.map (·.nm)).nodup_iff.mpr hn)
    rw [List.map_map] at this
    exact this) (by rw [hperm.length_eq]; omega) (fun o ho => by walk_at "st"; rfl) (fun o ho => by walk_at "st") ?_
  walk_at "sx"
  rw [List.append_assoc, List.length_append]
  refine fputK_at.mpr ?_
  refine ⟨⟨by decide +kernel, by decide⟩, ?_⟩
  rw [pk_m3]
  exact ⟨rfl, rfl⟩
set_option maxHeartbeats 8000000 in
theorem eq_law_one {o : OfV} (h : o.Wf) : m_law_one n [o.r8] st = .ok o.pv st := by
  refine OkFx.eq ?_
  unfold m_law_one
  refine okF_fnT rfl ?_
  unfold b_law_one OfV.r8
  have hz : sizeLine = 16777216 := sizeLine_eq
  refine ok_seq ?_
  cases hm : o.most with
  | none =>
    rw [mostV_none hm]
    walk_at "sx"
    refine ok_makeT ?_
    walk_at "sx"
    refine ⟨by omega, KS5, o.vs5, [], eq_Office_init (.inl rfl) h, ?_, ?_⟩
    · rw [obj_frz (vs := o.vs5) rfl]
      exact cl_pl rfl
    · rw [obj_frz (vs := o.vs5) rfl]
      walk_at "sx"
      rw [fin_self, OfV.pv_none hm]
      exact ⟨rfl, rfl⟩
  | some m =>
    rw [mostV_some hm]
    walk_at "sx"
    refine ok_makeT ?_
    walk_at "sx"
    refine ⟨by omega, KS6, o.vs6 m, [], eq_Capped_init h hm, ?_, ?_⟩
    · rw [obj_frz (vs := o.vs6 m) rfl]
      exact cl_pl rfl
    · rw [obj_frz (vs := o.vs6 m) rfl]
      walk_at "sx"
      rw [fin_self, OfV.pv_some hm]
      exact ⟨rfl, rfl⟩
set_option maxHeartbeats 8000000 in
theorem eq_law_madeG {ss : List Str} {r : PV} (hE : ∀ {env : Dn.Env} {E : PV → S → Prop} {Q : PV → S → Prop}, Okx E (subO tg_get n r (.str "ends")) ⟨env, st⟩ Q ↔ Q (.lst (ss.map .str)) ⟨env, st⟩) (hO : ∀ {env : Dn.Env} {E : PV → S → Prop} {Q : PV → S → Prop}, Okx E (subO tg_get n r (.str "offices")) ⟨env, st⟩ Q ↔ Q (.lst (os.map OfV.r8)) ⟨env, st⟩)
    (h0 : ss ≠ []) (hsl : ss.length ≤ 4) (hm : ∀ x ∈ ss, Nm x) (hns : ss.Nodup) (hw : ∀ o ∈ os, o.Wf) (he : ∀ o ∈ os, o.src ∈ ss ∧ o.dst ∈ ss) (hn : (os.map (·.nm)).Nodup) (hl : os.length ≤ 20) :
    m_law_made n [r] st = .ok (mkt (sortS ss) (sortO os)) st := by
  have hz : sizeLine = 16777216 := sizeLine_eq
  refine OkFx.eq ?_
  unfold m_law_made
  refine okF_fnT rfl ?_
  unfold b_law_made
  walk_at "sx"
  refine ok_makeT ?_
  walk_at "sx"
  rw [hE]
  walk_at "sx"
  rw [hO]
  walk_at "sx"
  refine ok_lcT (as := os) OfV.r8 (fun _ => true) OfV.pv (by rfl) (by simp) (by omega) (fun _ => by rfl) (fun c hc => ?_) (fun c hc _ => ?_) ?_
  · walk_at "st"
  · walk_at "st"
    rw [eq_law_one (hw c hc)]
    exact ⟨rfl, rfl⟩
  · rw [filter_true]
    walk_at "sx"
    refine ⟨KSM, _, _, eq_Market_init h0 hsl hm hns he hn hl, ?_, ?_⟩
    · rw [mkt_frz]
      exact cl_pl mkt_pl
    · rw [mkt_frz]
      walk_at "sx"
      rw [fin_self]
      exact ⟨rfl, rfl⟩
theorem eq_law_made {ss : List Str} (h0 : ss ≠ []) (hsl : ss.length ≤ 4) (hm : ∀ x ∈ ss, Nm x) (hns : ss.Nodup) (hw : ∀ o ∈ os, o.Wf) (he : ∀ o ∈ os, o.src ∈ ss ∧ o.dst ∈ ss) (hn : (os.map (·.nm)).Nodup) (hl : os.length ≤ 20) :
    m_law_made n [rawV ss os] st = .ok (mkt (sortS ss) (sortO os)) st := eq_law_madeG (ok_subC rfl) (ok_subC rfl) h0 hsl hm hns hw he hn hl
end
end Lw
/-! M15: the law's draws: shuffled, ring, office. -/
namespace Lw
open PySem Dn
open L2 hiding bin
theorem Pn.len {cells : List Int} {B : Int} {g st : List MO} (h : Pn cells B g st) : st.length = g.length + 1 := by
  obtain ⟨b, l, rfl, _⟩ := h
  rfl
theorem fin_pn {cells : List Int} {B B' : Int} {g st st' : List MO} {d : PV} (h : Pn cells B g st) (h' : Pn cells B' g st') : fin st st' d = (d, st') := fin_same (by rw [h.len, h'.len]; exact Nat.le_refl _)
/-- a dict made at the end of a def that draws -/
theorem fin_pnD {cells : List Int} {B B' : Int} {g st st' : List MO} {kvs : List (L2.Key × PV)} (h : Pn cells B g st) (h' : Pn cells B' g st') (hk : PV.pls (kvs.map (·.2)) = true) : fin st (st' ++ [.dic kvs]) (.hnd st'.length) = (.dct (kvs.map (·.1)) (kvs.map (·.2)), st') := by
  have hl := h.len
  have hl' := h'.len
  have e0 : st.length = st'.length := by omega
  have ef : (PV.hnd st'.length).frz st.length (st' ++ [.dic kvs]) = .dct (kvs.map (·.1)) (kvs.map (·.2)) := by
    rw [PV.frz, if_pos (by omega)]
    have : (st' ++ [MO.dic kvs])[st'.length]? = some (.dic kvs) := by simp
    rw [this]
  rw [fin_cut (by rw [List.length_append, List.length_singleton]; omega), ef, e0, List.take_left]
  · rw [ef, PV.cl]
    exact cls_pl hk
  · intro i mo hi e
    rw [List.getElem?_append_left (by omega)] at e
    obtain ⟨b, l, rfl, _⟩ := h
    obtain ⟨b', l', rfl, _⟩ := h'
    cases i with
    | zero =>
      right
      cases e
      show PV.cls _ [.lst (cells.map .int), .int b', .int l']
      refine cls_pl ?_
      show ((PV.lst (cells.map .int)).pl && _) = true
      have : (PV.lst (cells.map .int)).pl = true := by
        rw [PV.pl]
        exact pls_iff.mpr fun x hx => by
          obtain ⟨y, _, rfl⟩ := List.mem_map.mp hx
          rfl
      rw [this]
      rfl
    | succ i => exact .inl e
theorem erase_perm {α : Type} : ∀ (l : List α) (k : Nat) (h : k < l.length), (l[k] :: l.eraseIdx k).Perm l
  | a :: l, 0, _ => .refl _
  | a :: l, k + 1, h => by
    have h' : k < l.length := by rw [List.length_cons] at h; omega
    show (l[k] :: a :: l.eraseIdx k).Perm (a :: l)
    exact (List.Perm.swap a l[k] _).trans ((erase_perm l k h').cons a)
theorem in5 {a b c d e lo hi : Int} (h1 : lo ≤ a ∧ a ≤ hi) (h2 : lo ≤ b ∧ b ≤ hi) (h3 : lo ≤ c ∧ c ≤ hi) (h4 : lo ≤ d ∧ d ≤ hi) (h5 : lo ≤ e ∧ e ≤ hi) : ∀ x ∈ [a, b, c, d, e], lo ≤ x ∧ x ≤ hi := fun x hx => by
  simp only [List.mem_cons, List.not_mem_nil, or_false] at hx
  rcases hx with rfl | rfl | rfl | rfl | rfl <;> assumption
theorem in3i {a b c lo hi : Int} (h1 : lo ≤ a ∧ a ≤ hi) (h2 : lo ≤ b ∧ b ≤ hi) (h3 : lo ≤ c ∧ c ≤ hi) : ∀ x ∈ [a, b, c], lo ≤ x ∧ x ≤ hi := fun x hx => by
  simp only [List.mem_cons, List.not_mem_nil, or_false] at hx
  rcases hx with rfl | rfl | rfl <;> assumption
theorem picki {n : Nat} {B lo hi : Int} {cells : List Int} {g st : List MO} {xs : List Int} {vs : List PV} {Q : PV → List MO → Prop} (hbt : Bt cells) (hp : Pn cells B g st) (hx : 0 < xs.length ∧ xs.length ≤ 1000000) (hB : B < 1000000000) (e : vs = xs.map .int)
    (hb : ∀ x ∈ xs, lo ≤ x ∧ x ≤ hi) (h : ∀ (i : Int) st', lo ≤ i → i ≤ hi → Pn cells (B + 1) g st' → Q (.int i) st') : OkF (m_law_pick n [.hnd 0, .lst vs] st) Q := by
  subst e
  refine sp_pickL hbt hp (by simpa using hx) hB fun v st' hv hp' => ?_
  obtain ⟨i, hi', rfl⟩ := List.mem_map.mp hv
  exact h i st' (hb i hi').1 (hb i hi').2 hp'
local macro_rules | `(tactic| walk_at "sx") => `(tactic| try simp only [ok_ret, ok_bnd, ok_bin, ok_binL, ok_var, varK_val, varK_own, ok_brw, brwK_some, pv_val, pv_own, ok_asB, asBK_bl, ok_andT, ok_orT, ok_notT, ok_iteT, ok_andV, ok_notV, blK_bl,
  ok_argN, ok_argC, ok_fits, ok_tupM, ok_lstM, ok_parN, ok_parS, intK_int, ok_slM, ok_joinM, strK_str, ok_itemsM, ok_rngM, seqK_nx, seqK_rt, seqK_bk, seqK_ct, ok_ifM, ok_retM, ok_dropM, ok_skipM, ok_asgM, ok_asgO, ok_par2, ok_par2VO, ok_par2OO, ok_par3,
  ok_callM, rtK_rt, rtK_nx, ok_loopM, ok_lcM, ok_dispM, ok_prsN, ok_prsC, ok_hget0, getK_some, ok_hputM, putK0, pc, pb, pl, ppb, ppl, plen, ok_add, ok_addS, ok_addT, ok_addL, ok_sub, ok_mul, ok_ixL, ok_ixT, ok_unp, unpK_tup, ok_set0, ok_setC, ok_app, ok_pop, ok_chk', chkK_some, flK_nx, flK_ct, flK_bk, flK_rt, sl_L, sl_T, sl_S, it_L, it_T, ok_sortL, ok_sortT, wip, ok_div, ok_mod, ok_pow, ok_rep, ok_ord, ok_fInt, ok_fAbs, ok_fNeg, ok_lenL, ok_lenT, ok_lenS, ok_fListL, ok_fListT, ok_fTupleL, ok_fTupleT, ok_eqI, ok_eqB, ok_eqS,
  okF_ok, okF_exc, ok_runM, ok_appA, ok_len1, ok_chain, isNonB_non, isNonB_int, isNonB_bl, isNonB_str, isNonB_tup, isNonB_lst, isNonB_obj, ok_isN, ok_max, ok_min, isi_int_int, isi_int_bl, isi_int_non, isi_int_str, isi_int_tup, isi_int_lst, isi_bool_int, isi_bool_bl, isi_str_str, isi_str_int, isi_str_bl, isi_str_non, isi_str_tup, isi_str_lst, isi_tuple_tup, isi_tuple_int, isi_tuple_bl, isi_tuple_non, isi_tuple_str, isi_tuple_lst,
  ok_conM, ok_fputM, fputK_new, conV_new, ok_methM,
  List.map_cons, List.map_nil, List.replicate_succ, List.replicate_zero, List.cons_append, List.nil_append, List.append_nil, List.getElem?_cons_zero, List.getElem?_cons_succ, List.set_cons_zero, List.set_cons_succ, Nat.reduceSub, decide_eq_true_eq, if_true, if_false, Bool.false_eq_true, Bool.not_true, Bool.not_false, beq_self_eq_true, Bool.true_eq_false, bne_self_eq_false, Bool.bne_true, Bool.bne_false, Nat.zero_add, Nat.reduceAdd, true_and, and_true, reduceCtorEq, List.length_cons, List.length_nil, ok_ordU, ok_ordS, ok_itemsDM, itd_L, itd_T, itd_D, ok_subT, ok_subL, ok_truT, tru_bl, ok_inTS, ok_loopU, ok_enumM, en_L, en_T, ok_lenUL, ok_lenUT, ok_hndM, ok_dcL, ok_par2OV', a20, a21, sz0, sz1, sz2, sz3, sz4, sz5, sz6, sz7, sz8, sz9, sz10, sz11, sz12])
set_option maxHeartbeats 8000000 in
theorem sp_shuffled {n w : Nat} {B : Int} {cells : List Int} {g st : List MO} {xs : List PV} {Q : PV → List MO → Prop} (hn : 1000 < n) (hbt : Bt cells) (hp : Pn cells B g st) (hB : B < 100000000) (hx : xs.length < 1000) (hgd : ∀ v ∈ xs, Gd 5 w v)
    (h : ∀ ys st', ys.Perm xs → Pn cells (B + 1000) g st' → Q (.lst ys) st') : OkF (m_law_shuffled n [.hnd 0, .lst xs] st) Q := by
  have hz : sizeLine = 16777216 := sizeLine_eq
  unfold m_law_shuffled
  refine okF_fnF rfl ?_
  unfold b_law_shuffled
  refine ok_seq ?_
  walk_at "sx"
  refine ok_seq ?_
  refine ok_while (fun m s => ∃ (zs ws : List PV) (st' : List MO), s = ⟨[some (.val (.hnd 0)), some (.val (.lst xs)), some (.own zs), some (.own ws)], st'⟩ ∧ (ws ++ zs).Perm xs ∧ m = zs.length ∧ Pn cells (B + ws.length) g st') (m := xs.length) ⟨xs, [], st, rfl, .refl _, rfl, hp.mono (by omega)⟩ (by omega) ?_
  rintro m s ⟨zs, ws, st', rfl, hpm, rfl, hp'⟩
  have hlen := hpm.length_eq
  rw [List.length_append] at hlen
  walk_at "sx"
  rw [ok_eqNilG (fun v hv => hgd v (hpm.mem_iff.mp (List.mem_append_right _ hv))) (by decide)]
  walk_at "sx"
  cases zs with
  | nil =>
    simp only [List.isEmpty_nil, Bool.not_true, Bool.false_eq_true, if_false]
    walk_at "sx"
    refine h ws st' (by rw [List.append_nil] at hpm; exact hpm) (hp'.mono (by simp only [List.length_nil] at hlen; omega))
  | cons z zs =>
    simp only [List.isEmpty_cons, Bool.not_false, if_true]
    rw [List.length_cons] at hlen
    walk_at "sx"
    refine ⟨⟨_, rfl⟩, ⟨_, rfl⟩, ?_⟩
    refine sp_draw hbt hp' (by omega) (by omega) fun r st2 r0 r1 hp2 => ?_
    obtain ⟨k, rfl⟩ := Int.eq_ofNat_of_zero_le r0
    have hk : k < (z :: zs).length := by rw [List.length_cons]; omega
    rw [ok_take (k := k) (zs := z :: zs) (z := (z :: zs)[k]) rfl (List.getElem?_eq_getElem hk) (by rw [List.length_cons] at hk; omega)]
    rw [ok_push rfl (by omega)]
    have hpe := erase_perm (z :: zs) k hk
    refine ⟨(z :: zs).length - 1, by rw [List.length_cons]; omega, (z :: zs).eraseIdx k, ws ++ [(z :: zs)[k]], st2, rfl, ?_, ?_, hp2.mono (by rw [List.length_append, List.length_singleton]; omega)⟩
    · refine List.Perm.trans ?_ hpm
      rw [List.append_assoc]
      exact List.Perm.append_left ws hpe
    · rw [List.length_eraseIdx_of_lt hk]
def Rat9 (r : Int × Int) : Prop := (1 ≤ r.1 ∧ r.1 ≤ 9) ∧ (1 ≤ r.2 ∧ r.2 ≤ 9)
def ratV (r : Int × Int) : PV := .tup [.int r.1, .int r.2]
def rats (v : PV) : Prop := ∃ rv : List (Int × Int), v = .lst (rv.map ratV) ∧ ∀ r ∈ rv, Rat9 r
theorem rats1 {a b : Int} (h : Rat9 (a, b)) : rats (.lst [.tup [.int a, .int b]]) := ⟨[(a, b)], rfl, fun r hr => by rw [List.mem_singleton.mp hr]; exact h⟩
theorem rats2 {a b c d : Int} (h : Rat9 (a, b)) (h2 : Rat9 (c, d)) : rats (.lst [.tup [.int a, .int b], .tup [.int c, .int d]]) := ⟨[(a, b), (c, d)], rfl, fun r hr => by
  simp only [List.mem_cons, List.not_mem_nil, or_false] at hr
  rcases hr with rfl | rfl <;> assumption⟩
set_option maxHeartbeats 8000000 in
theorem sp_ring {n : Nat} {B : Int} {cells : List Int} {g st : List MO} {labels ends : List Str} {Q : PV → List MO → Prop} (hbt : Bt cells) (hp : Pn cells B g st) (hB : B < 100000000) (hl : ends.length ≤ labels.length) (h4 : ends.length ≤ 4) (hL : labels.length ≤ 100) (hnl : ∀ x ∈ labels, Nm x) (hne : ∀ x ∈ ends, Nm x)
    (h : ∀ (os : List OfV) st', os.map (·.nm) = labels.take ends.length → (∀ o ∈ os, o.Wf ∧ o.src ∈ ends ∧ o.dst ∈ ends) → Pn cells (B + 20) g st' → Q (.lst (os.map OfV.r8)) st') : OkF (m_law_ring n [.hnd 0, .lst (labels.map .str), .lst (ends.map .str)] st) Q := by
  have hz : sizeLine = 16777216 := sizeLine_eq
  have hst := hp
  unfold m_law_ring
  refine okF_fnT rfl ?_
  unfold b_law_ring
  refine ok_seq ?_
  walk_at "sx"
  refine sp_pickL hbt hp (by simp) (by omega) fun v st1 hv hp1 => ?_
  have hrv : rats v := by
    simp only [List.mem_cons, List.not_mem_nil, or_false] at hv
    rcases hv with rfl | rfl | rfl | rfl | rfl
    · exact rats2 ⟨by decide, by decide⟩ ⟨by decide, by decide⟩
    · exact rats2 ⟨by decide, by decide⟩ ⟨by decide, by decide⟩
    · exact rats2 ⟨by decide, by decide⟩ ⟨by decide, by decide⟩
    · exact rats2 ⟨by decide, by decide⟩ ⟨by decide, by decide⟩
    · exact rats2 ⟨by decide, by decide⟩ ⟨by decide, by decide⟩
  clear hv
  walk_at "sx"
  refine ok_seq ?_
  walk_at "sx"
  refine sp_pickL hbt hp1 (by simp) (by omega) fun u st2 hu hp2 => ?_
  have hru : rats u := by
    simp only [List.mem_cons, List.not_mem_nil, or_false] at hu
    rcases hu with rfl | rfl | rfl | rfl
    · exact hrv
    · exact hrv
    · exact rats1 ⟨by decide, by decide⟩
    · exact rats1 ⟨by decide, by decide⟩
  clear hu
  obtain ⟨rv, rfl, hr9⟩ := hru
  walk_at "sx"
  refine ok_seq ?_
  walk_at "sx"
  refine sp_draw hbt hp2 (by omega) (by omega) fun d1 st3 d10 d11 hp3 => ?_
  walk_at "sx"
  refine picki hbt hp3 (xs := [0, 1, d1]) (lo := 0) (hi := 20) (by simp) (by omega) rfl (in3i (by decide) (by decide) (by omega)) fun fr st4 f0 f1 hp4 => ?_
  rw [ok_seqM]
  walk_at "sx"
  refine ⟨_, rngP_nat (by omega) (by rw [List.length_map]; omega), ?_⟩
  have hlm : ((ends.map PV.str).length : Int) = (ends.length : Int) := by rw [List.length_map]
  rw [hlm]
  refine ok_for (fun k s => ∃ (os : List OfV) (st' : List MO) (e6 e7 e8 e9 : Option SV), s = ⟨[some (.val (.hnd 0)), some (.val (.lst (labels.map .str))), some (.val (.lst (ends.map .str))), some (.val (.lst (rv.map ratV))), some (.own (os.map OfV.r8)), some (.val (.int fr)), e6, e7, e8, e9], st'⟩ ∧ os.map (·.nm) = labels.take k ∧ k ≤ ends.length ∧ (∀ o ∈ os, o.Wf ∧ o.src ∈ ends ∧ o.dst ∈ ends) ∧ Pn cells (B + 4 + (k : Int)) g st') ⟨[], st4, none, none, none, none, rfl, rfl, Nat.zero_le _, (fun o ho => absurd ho List.not_mem_nil), hp4.mono (by omega)⟩ ?_ ?_
  · rintro k x s hx ⟨os, st', e6, e7, e8, e9, rfl, hnm, hke, hos, hp'⟩
    obtain ⟨rfl, hk⟩ := rng_get hx
    have hk' : k < ends.length := by omega
    have hkl : k < labels.length := by omega
    have hosl : os.length = k := by
      have := congrArg List.length hnm
      rw [List.length_map, List.length_take] at this
      omega
    have hL : L2.atI (labels.map PV.str) (k : Int) = some (.str labels[k]) := L2.atI_nat (by rw [List.getElem?_map, List.getElem?_eq_getElem hkl]; rfl)
    have hE : L2.atI (ends.map PV.str) (k : Int) = some (.str ends[k]) := L2.atI_nat (by rw [List.getElem?_map, List.getElem?_eq_getElem hk']; rfl)
    obtain ⟨m, hm, hml⟩ : ∃ m : Nat, ((k : Int) + 1) % ((ends.map PV.str).length : Int) = (m : Int) ∧ m < ends.length := by
      refine ⟨(k + 1) % ends.length, by rw [List.length_map]; exact (Int.natCast_emod (k + 1) ends.length).symm, Nat.mod_lt _ (by omega)⟩
    have hM : L2.atI (ends.map PV.str) (m : Int) = some (.str ends[m]) := L2.atI_nat (by rw [List.getElem?_map, List.getElem?_eq_getElem hml]; rfl)
    refine ok_seq ?_
    refine Okx.imp (Q := fun fl s => fl = .nx ∧ ∃ r : Int × Int, Rat9 r ∧ s = ⟨[some (.val (.hnd 0)), some (.val (.lst (labels.map .str))), some (.val (.lst (ends.map .str))), some (.val (.lst (rv.map ratV))), some (.own (os.map OfV.r8)), some (.val (.int fr)), some (.val (.int k)), some (.val (.int r.1)), some (.val (.int r.2)), e9], st'⟩) ?_ ?_
    · walk_at "sx"
      by_cases hlt : (k : Int) < ((rv.map ratV).length : Int)
      · rw [if_pos hlt]
        obtain ⟨v, e, hv⟩ := atI_in (ds := rv.map ratV) (k := (k : Int)) (by omega) hlt
        obtain ⟨r, hr, rfl⟩ := List.mem_map.mp hv
        refine ⟨_, e, ?_⟩
        unfold ratV
        walk_at "sx"
        exact ⟨r, hr9 r hr, rfl⟩
      · rw [if_neg hlt]
        walk_at "sx"
        exact ⟨(1, 1), ⟨by decide, by decide⟩, rfl⟩
    rintro fl s ⟨rfl, r, hr, rfl⟩
    obtain ⟨⟨p1, p2⟩, q1, q2⟩ := hr
    rw [seqK_nx]
    refine ok_seq ?_
    refine Okx.imp (Q := fun fl s => fl = .nx ∧ ∃ c : Int, (0 ≤ c ∧ c ≤ 20) ∧ s = ⟨[some (.val (.hnd 0)), some (.val (.lst (labels.map .str))), some (.val (.lst (ends.map .str))), some (.val (.lst (rv.map ratV))), some (.own (os.map OfV.r8)), some (.val (.int fr)), some (.val (.int k)), some (.val (.int r.1)), some (.val (.int r.2)), some (.val (.int c))], st'⟩) ?_ ?_
    · walk_at "sx"
      rw [ok_fIntB]
      walk_at "sx"
      cases hb : ((k : Int) == 0) with
      | true =>
        simp only [if_true]
        exact ⟨cmul100 (by omega) (by omega), fr * 1, by omega, rfl⟩
      | false =>
        simp only [Bool.false_eq_true, if_false]
        exact ⟨cmul100 (by omega) (by omega), fr * 0, by omega, rfl⟩
    rintro fl s ⟨rfl, c, hc, rfl⟩
    rw [seqK_nx]
    walk_at "sx"
    refine ⟨⟨_, rfl⟩, _, hL, ?_⟩
    refine ⟨_, hE, ?_⟩
    rw [hm]
    refine ⟨by rw [List.length_map]; omega, _, hM, ?_⟩
    refine sp_draw hbt hp' (by omega) (by omega) fun d2 st5 d20 d21 hp5 => ?_
    walk_at "sx"
    rw [ok_push rfl (by rw [List.length_map]; omega)]
    refine ⟨os ++ [⟨labels[k], ends[k], ends[m], r.1, r.2, c, d2, none⟩], st5, _, _, _, _, by rw [List.map_append]; rfl, ?_, by omega, fun o ho => ?_, hp5.mono (by omega)⟩
    · rw [List.map_append, hnm, List.take_succ, List.getElem?_eq_getElem hkl]
      rfl
    · rcases List.mem_append.mp ho with ho | ho
      · exact hos o ho
      · rw [List.mem_singleton.mp ho]
        exact ⟨⟨hnl _ (List.getElem_mem _), hne _ (List.getElem_mem _), hne _ (List.getElem_mem _), ⟨p1, p2⟩, ⟨q1, q2⟩, hc, ⟨d20, by show d2 ≤ 1000; omega⟩, fun m e => by cases e⟩, List.getElem_mem _, List.getElem_mem _⟩
  · rintro s ⟨os, st', e6, e7, e8, e9, rfl, hnm, hke, hos, hp'⟩
    rw [rng_len] at hnm hp'
    walk_at "sx"
    rw [fin_pn hst hp']
    have e : (ends.length : Int).toNat = ends.length := by omega
    rw [e] at hnm hp'
    exact h os st' hnm hos (hp'.mono (by omega))
end Lw
/-! M16: the law's raw market. -/
namespace Lw
open PySem Dn
open L2 hiding bin
theorem cut_mid {ds : List PV} {a b : Nat} : cutP ds (some (a : Int)) (some ((a + b : Nat) : Int)) = (ds.drop a).take b := by
  have h0 : ∀ k : Nat, HT.sIx ds.length ds.length (some (k : Int)) = min k ds.length := fun k => by
    unfold HT.sIx
    first
      | (simp; omega)
      | (dsimp only; split <;> omega)
  have h1 : ∀ k : Nat, HT.sIx ds.length 0 (some (k : Int)) = min k ds.length := fun k => by
    unfold HT.sIx
    first
      | (simp; omega)
      | (dsimp only; split <;> omega)
  unfold cutP
  rw [h0, h1]
  rcases Nat.le_total a ds.length with h | h
  · rw [Nat.min_eq_left h]
    rcases Nat.le_total (a + b) ds.length with h2 | h2
    · rw [Nat.min_eq_left h2, Nat.add_sub_cancel_left]
    · rw [Nat.min_eq_right h2, List.take_of_length_le (by rw [List.length_drop]; omega), List.take_of_length_le (by rw [List.length_drop]; omega)]
  · rw [Nat.min_eq_right h, List.drop_of_length_le (Nat.le_refl _), List.drop_of_length_le h, List.take_nil, List.take_nil]
theorem cut_top {ds : List PV} {b : Nat} : cutP ds none (some (b : Int)) = ds.take b := cut_take
theorem row_gd {o : OfV} (h : o.Wf) : Gd 5 400 o.r8 := by
  have hg : ∀ v ∈ [PV.str o.nm, .str o.src, .str o.dst, .int o.p, .int o.q, .int o.fee, .int o.least, o.mostV], Gd 4 40 v := by
    have hp := h.p
    have hq := h.q
    have hf := h.fee
    have hl := h.least
    have hN : ∀ {x : Str}, Nm x → Gd 4 40 (.str x) := fun hx => gd_str hx.sOk.1 (Nat.le_trans hx.sOk.2 (by decide))
    have hI : ∀ {k : Int}, -10000000 ≤ k ∧ k ≤ 10000000 → Gd 4 40 (.int k) := fun hk => gd_int (by
      have : (10 : Nat) ^ 12 = 1000000000000 := by decide
      omega)
    intro v hv
    simp only [List.mem_cons, List.not_mem_nil, or_false] at hv
    rcases hv with rfl | rfl | rfl | rfl | rfl | rfl | rfl | rfl
    · exact hN h.nm
    · exact hN h.src
    · exact hN h.dst
    · exact hI (by omega)
    · exact hI (by omega)
    · exact hI (by omega)
    · exact hI (by omega)
    · cases hm : o.most with
      | none =>
        rw [mostV_none hm]
        exact gd_non
      | some m =>
        rw [mostV_some hm]
        have := h.most m hm
        exact hI (by omega)
  exact (gd_tup hg).mono (Nat.le_refl _) (show 8 * (40 + 1) ≤ 400 by decide)
theorem mem_nm {v : PV} {ss : List Str} (h : v ∈ ss.map PV.str) : ∃ x, v = .str x ∧ x ∈ ss := by
  obtain ⟨x, hx, rfl⟩ := List.mem_map.mp h
  exact ⟨x, rfl, hx⟩
local macro_rules | `(tactic| walk_at "sx") => `(tactic| try simp only [ok_ret, ok_bnd, ok_bin, ok_binL, ok_var, varK_val, varK_own, ok_brw, brwK_some, pv_val, pv_own, ok_asB, asBK_bl, ok_andT, ok_orT, ok_notT, ok_iteT, ok_andV, ok_notV, blK_bl,
  ok_argN, ok_argC, ok_fits, ok_tupM, ok_lstM, ok_parN, ok_parS, intK_int, ok_slM, ok_joinM, strK_str, ok_itemsM, ok_rngM, seqK_nx, seqK_rt, seqK_bk, seqK_ct, ok_ifM, ok_retM, ok_dropM, ok_skipM, ok_asgM, ok_asgO, ok_par2, ok_par2VO, ok_par2OO, ok_par3,
  ok_callM, rtK_rt, rtK_nx, ok_loopM, ok_lcM, ok_dispM, ok_prsN, ok_prsC, ok_hget0, getK_some, ok_hputM, putK0, pc, pb, pl, ppb, ppl, plen, ok_add, ok_addS, ok_addT, ok_addL, ok_sub, ok_mul, ok_ixL, ok_ixT, ok_unp, unpK_tup, ok_set0, ok_setC, ok_app, ok_pop, ok_chk', chkK_some, flK_nx, flK_ct, flK_bk, flK_rt, sl_L, sl_T, sl_S, it_L, it_T, ok_sortL, ok_sortT, wip, ok_div, ok_mod, ok_pow, ok_rep, ok_ord, ok_fInt, ok_fAbs, ok_fNeg, ok_lenL, ok_lenT, ok_lenS, ok_fListL, ok_fListT, ok_fTupleL, ok_fTupleT, ok_eqI, ok_eqB, ok_eqS,
  okF_ok, okF_exc, ok_runM, ok_appA, ok_len1, ok_chain, isNonB_non, isNonB_int, isNonB_bl, isNonB_str, isNonB_tup, isNonB_lst, isNonB_obj, ok_isN, ok_max, ok_min, isi_int_int, isi_int_bl, isi_int_non, isi_int_str, isi_int_tup, isi_int_lst, isi_bool_int, isi_bool_bl, isi_str_str, isi_str_int, isi_str_bl, isi_str_non, isi_str_tup, isi_str_lst, isi_tuple_tup, isi_tuple_int, isi_tuple_bl, isi_tuple_non, isi_tuple_str, isi_tuple_lst,
  ok_conM, ok_fputM, fputK_new, conV_new, ok_methM,
  List.map_cons, List.map_nil, List.replicate_succ, List.replicate_zero, List.cons_append, List.nil_append, List.append_nil, List.getElem?_cons_zero, List.getElem?_cons_succ, List.set_cons_zero, List.set_cons_succ, Nat.reduceSub, decide_eq_true_eq, if_true, if_false, Bool.false_eq_true, Bool.not_true, Bool.not_false, beq_self_eq_true, Bool.true_eq_false, bne_self_eq_false, Bool.bne_true, Bool.bne_false, Nat.zero_add, Nat.reduceAdd, true_and, and_true, reduceCtorEq, List.length_cons, List.length_nil, ok_ordU, ok_ordS, ok_itemsDM, itd_L, itd_T, itd_D, ok_subT, ok_subL, ok_truT, tru_bl, ok_inTS, ok_loopU, ok_enumM, en_L, en_T, ok_lenUL, ok_lenUT, ok_hndM, ok_dcL, ok_par2OV', a20, a21, sz0, sz1, sz2, sz3, sz4, sz5, sz6, sz7, sz8, sz9, sz10, sz11, sz12])
set_option maxHeartbeats 8000000 in
theorem sp_office {n : Nat} {B top : Int} {cells : List Int} {g st : List MO} {ends : List Str} {lab : Str} {Q : PV → List MO → Prop} (hbt : Bt cells) (hp : Pn cells B g st) (hB : B < 100000000) (h0 : 0 < ends.length) (h4 : ends.length ≤ 4) (ht : 1 ≤ top ∧ top ≤ 9) (hn : Nm lab) (hne : ∀ x ∈ ends, Nm x)
    (h : ∀ (o : OfV) st', o.nm = lab → o.Wf ∧ o.src ∈ ends ∧ o.dst ∈ ends → Pn cells (B + 20) g st' → Q (OfV.r8 o) st') : OkF (m_law_office n [.hnd 0, .str lab, .lst (ends.map .str), .int top] st) Q := by
  have hz : sizeLine = 16777216 := sizeLine_eq
  have hst := hp
  have hel : 0 < (ends.map PV.str).length ∧ (ends.map PV.str).length ≤ 1000000 := by
    rw [List.length_map]
    omega
  unfold m_law_office
  refine okF_fnT rfl ?_
  unfold b_law_office
  refine ok_seq ?_
  walk_at "sx"
  refine sp_pickL hbt hp hel (by omega) fun v1 st1 hv1 hp1 => ?_
  obtain ⟨src, rfl, hs⟩ := mem_nm hv1
  walk_at "sx"
  refine sp_pickL hbt hp1 hel (by omega) fun v2 st2 hv2 hp2 => ?_
  obtain ⟨dst, rfl, hd⟩ := mem_nm hv2
  walk_at "sx"
  refine sp_draw hbt hp2 (by omega) (by omega) fun p st3 p0 p1 hp3 => ?_
  walk_at "sx"
  refine sp_draw hbt hp3 (by omega) (by omega) fun q st4 q0 q1 hp4 => ?_
  walk_at "sx"
  refine ok_seq ?_
  walk_at "sx"
  refine sp_draw hbt hp4 (by omega) (by omega) fun f0 st5 f00 f01 hp5 => ?_
  walk_at "sx"
  refine picki hbt hp5 (xs := [0, 0, 1, 2, f0]) (lo := 0) (hi := 20) (by simp) (by omega) rfl (in5 (by decide) (by decide) (by decide) (by decide) (by omega)) fun fee st6 e0 e1 hp6 => ?_
  walk_at "sx"
  refine sp_draw hbt hp6 (by omega) (by omega) fun l0 st7 l00 l01 hp7 => ?_
  walk_at "sx"
  refine picki hbt hp7 (xs := [0, 0, 1, 9, l0]) (lo := 0) (hi := 1000) (by simp) (by omega) rfl (in5 (by decide) (by decide) (by decide) (by decide) (by omega)) fun least st8 t0 t1 hp8 => ?_
  walk_at "sx"
  refine ok_seq ?_
  walk_at "sx"
  refine sp_draw hbt hp8 (by omega) (by omega) fun m0 st9 m00 m01 hp9 => ?_
  walk_at "sx"
  refine sp_draw hbt hp9 (by omega) (by omega) fun m2 st10 m20 m21 hp10 => ?_
  walk_at "sx"
  refine sp_pickL hbt hp10 (by simp) (by omega) fun v st11 hv hp11 => ?_
  have hmost : ∃ mo : Option Int, v = optV mo ∧ ∀ m, mo = some m → least ≤ m ∧ m ≤ 1000000 := by
    simp only [List.mem_cons, List.not_mem_nil, or_false] at hv
    rcases hv with rfl | rfl | rfl | rfl | rfl
    · exact ⟨none, rfl, fun m e => by cases e⟩
    · exact ⟨none, rfl, fun m e => by cases e⟩
    · exact ⟨none, rfl, fun m e => by cases e⟩
    · exact ⟨some (least + m0), rfl, fun m e => by cases e; omega⟩
    · exact ⟨some (least + m2), rfl, fun m e => by cases e; omega⟩
  obtain ⟨mo, rfl, hmo⟩ := hmost
  walk_at "sx"
  rw [fin_pn hst hp11]
  have hh := h ⟨lab, src, dst, 1 + p, 1 + q, fee, least, mo⟩ st11 rfl ⟨⟨hn, hne _ hs, hne _ hd, ⟨by show 1 ≤ 1 + p; omega, by show 1 + p ≤ 9; omega⟩, ⟨by show 1 ≤ 1 + q; omega, by show 1 + q ≤ 9; omega⟩, ⟨e0, e1⟩, ⟨t0, t1⟩, hmo⟩, hs, hd⟩ (hp11.mono (by omega))
  unfold OfV.r8 at hh
  rw [mostV_opt] at hh
  exact hh
end Lw
/-! M17: the law's raw market, the goal. -/
namespace Lw
open PySem Dn
open L2 hiding bin
/-- what is drawn: a market's currencies and offices -/
structure RawOk (ss : List Str) (os : List OfV) : Prop where
  ne : ss ≠ []
  sl : ss.length ≤ 4
  nm : ∀ x ∈ ss, Nm x
  nd : ss.Nodup
  wf : ∀ o ∈ os, o.Wf
  ends : ∀ o ∈ os, o.src ∈ ss ∧ o.dst ∈ ss
  on : (os.map (·.nm)).Nodup
  ol : os.length ≤ 20
theorem RawOk.mk' {ss : List Str} {os : List OfV} (r : RawOk ss os) : MkOk (sortS ss) (sortO os) := by
  have hp := sortO_perm r.on
  have hs := sortS_perm ss
  exact ⟨fun o ho => r.wf o (hp.mem_iff.mp ho), fun o ho => ⟨hs.mem_iff.mpr (r.ends o (hp.mem_iff.mp ho)).1, hs.mem_iff.mpr (r.ends o (hp.mem_iff.mp ho)).2⟩, hs.nodup_iff.mpr r.nd, by rw [hs.length_eq]; exact r.sl, by rw [hp.length_eq]; exact r.ol, fun c hc => r.nm c (hs.mem_iff.mp hc)⟩
theorem perm_map {α β : Type} {f : α → β} : ∀ {ys : List β} {xs : List α}, ys.Perm (xs.map f) → ∃ zs : List α, zs.Perm xs ∧ ys = zs.map f := by
  intro ys xs h
  generalize e : xs.map f = ms at h
  induction h generalizing xs with
  | nil =>
    cases xs with
    | nil => exact ⟨[], .refl _, rfl⟩
    | cons => cases e
  | cons a h ih =>
    cases xs with
    | nil => cases e
    | cons x xs =>
      rw [List.map_cons] at e
      obtain ⟨e1, e2⟩ := List.cons.inj e
      obtain ⟨zs, hz, rfl⟩ := ih e2
      exact ⟨x :: zs, hz.cons x, by rw [List.map_cons, e1]⟩
  | swap a b l =>
    cases xs with
    | nil => cases e
    | cons x xs =>
      cases xs with
      | nil => cases e
      | cons y xs =>
        rw [List.map_cons, List.map_cons] at e
        obtain ⟨e1, e2⟩ := List.cons.inj e
        obtain ⟨e2, e3⟩ := List.cons.inj e2
        exact ⟨y :: x :: xs, .swap x y xs, by rw [List.map_cons, List.map_cons, e1, e2, e3]⟩
  | trans h1 h2 ih1 ih2 =>
    obtain ⟨zs, hz, rfl⟩ := ih2 e
    obtain ⟨ws, hw, rfl⟩ := ih1 rfl
    exact ⟨ws, hw.trans hz, rfl⟩
theorem nodup_take {α : Type} {l : List α} (h : l.Nodup) (k : Nat) : (l.take k).Nodup := h.sublist (List.take_sublist k l)
/-- labels cut into two parts -/
theorem nodup_cut {l : List Str} (h : l.Nodup) {a b k : Nat} (hk : k ≤ a) : ((l.drop a).take b ++ l.take k).Nodup := by
  have h2 : (l.take a ++ l.drop a).Nodup := by rw [List.take_append_drop]; exact h
  rw [List.nodup_append] at h2 ⊢
  refine ⟨h2.2.1.sublist (List.take_sublist _ _), h.sublist (List.take_sublist _ _), fun x hx y hy e => ?_⟩
  refine h2.2.2 y ?_ x (List.mem_of_mem_take hx) e.symm
  have : l.take k = (l.take a).take k := by rw [List.take_take, Nat.min_eq_left hk]
  rw [this] at hy
  exact List.mem_of_mem_take hy
local macro_rules | `(tactic| walk_at "sx") => `(tactic| try simp only [ok_ret, ok_bnd, ok_bin, ok_binL, ok_var, varK_val, varK_own, ok_brw, brwK_some, pv_val, pv_own, ok_asB, asBK_bl, ok_andT, ok_orT, ok_notT, ok_iteT, ok_andV, ok_notV, blK_bl,
  ok_argN, ok_argC, ok_fits, ok_tupM, ok_lstM, ok_parN, ok_parS, intK_int, ok_slM, ok_joinM, strK_str, ok_itemsM, ok_rngM, seqK_nx, seqK_rt, seqK_bk, seqK_ct, ok_ifM, ok_retM, ok_dropM, ok_skipM, ok_asgM, ok_asgO, ok_par2, ok_par2VO, ok_par2OO, ok_par3,
  ok_callM, rtK_rt, rtK_nx, ok_loopM, ok_lcM, ok_dispM, ok_prsN, ok_prsC, ok_hget0, getK_some, ok_hputM, putK0, pc, pb, pl, ppb, ppl, plen, ok_add, ok_addS, ok_addT, ok_addL, ok_sub, ok_mul, ok_ixL, ok_ixT, ok_unp, unpK_tup, ok_set0, ok_setC, ok_app, ok_pop, ok_chk', chkK_some, flK_nx, flK_ct, flK_bk, flK_rt, sl_L, sl_T, sl_S, it_L, it_T, ok_sortL, ok_sortT, wip, ok_div, ok_mod, ok_pow, ok_rep, ok_ord, ok_fInt, ok_fAbs, ok_fNeg, ok_lenL, ok_lenT, ok_lenS, ok_fListL, ok_fListT, ok_fTupleL, ok_fTupleT, ok_eqI, ok_eqB, ok_eqS,
  okF_ok, okF_exc, ok_runM, ok_appA, ok_len1, ok_chain, isNonB_non, isNonB_int, isNonB_bl, isNonB_str, isNonB_tup, isNonB_lst, isNonB_obj, ok_isN, ok_max, ok_min, isi_int_int, isi_int_bl, isi_int_non, isi_int_str, isi_int_tup, isi_int_lst, isi_bool_int, isi_bool_bl, isi_str_str, isi_str_int, isi_str_bl, isi_str_non, isi_str_tup, isi_str_lst, isi_tuple_tup, isi_tuple_int, isi_tuple_bl, isi_tuple_non, isi_tuple_str, isi_tuple_lst,
  ok_conM, ok_fputM, fputK_new, conV_new, ok_methM,
  List.map_cons, List.map_nil, List.replicate_succ, List.replicate_zero, List.cons_append, List.nil_append, List.append_nil, List.getElem?_cons_zero, List.getElem?_cons_succ, List.set_cons_zero, List.set_cons_succ, Nat.reduceSub, decide_eq_true_eq, if_true, if_false, Bool.false_eq_true, Bool.not_true, Bool.not_false, beq_self_eq_true, Bool.true_eq_false, bne_self_eq_false, Bool.bne_true, Bool.bne_false, Nat.zero_add, Nat.reduceAdd, true_and, and_true, reduceCtorEq, List.length_cons, List.length_nil, ok_ordU, ok_ordS, ok_itemsDM, itd_L, itd_T, itd_D, ok_subT, ok_subL, ok_truT, tru_bl, ok_inTS, ok_loopU, ok_enumM, en_L, en_T, ok_lenUL, ok_lenUT, ok_hndM, ok_dcL, ok_par2OV', a20, a21, sz0, sz1, sz2, sz3, sz4, sz5, sz6, sz7, sz8, sz9, sz10, sz11, sz12, ok_sortUL])
def rawD (ss : List Str) (os : List OfV) : List (L2.Key × PV) := [(.inr (Str.ofString "ends"), PV.lst (ss.map .str)), (.inr (Str.ofString "offices"), PV.lst (os.map OfV.r8))]
set_option maxHeartbeats 8000000 in
theorem raw_body {n : Nat} {B many top : Int} {cells : List Int} {g st : List MO} {Q : PV → List MO → Prop} (hn : 1000 < n) (hbt : Bt cells) (hp : Pn cells B g st) (hB : B < 10000000) (hm : 0 ≤ many ∧ many ≤ 12) (ht : 1 ≤ top ∧ top ≤ 9)
    (h : ∀ (ss : List Str) (os : List OfV) st', RawOk ss os → Pn cells (B + 5000) g st' → Q (.hnd st'.length) (st' ++ [.dic (rawD ss os)])) : Okx (fun _ _ => False) (b_law_raw n) ⟨[some (.val (.hnd 0)), some (.val (.int many)), some (.val (.int top)), none, none, none, none], st⟩ (fun fl s => rtK Q s fl) := by
  have hz : sizeLine = 16777216 := sizeLine_eq
  unfold b_law_raw
  refine ok_seq ?_
  walk_at "sx"
  refine sp_names hbt hp (by omega) (by omega) fun ss st1 hsl hsn hsd hp1 => ?_
  walk_at "sx"
  refine sp_draw hbt hp1 (by omega) (by omega) fun r st2 r0 r1 hp2 => ?_
  walk_at "sx"
  obtain ⟨k, rfl⟩ := Int.eq_ofNat_of_zero_le r0
  rw [show (1 : Int) + (k : Int) = ((k + 1 : Nat) : Int) by omega, cut_top, ← List.map_take]
  have hel : (ss.take (k + 1)).length = k + 1 := by rw [List.length_take]; omega
  have hes : ∀ x ∈ ss.take (k + 1), Nm x := fun x hx => hsn x (List.mem_of_mem_take hx)
  have hed := nodup_take hsd (k + 1)
  generalize ss.take (k + 1) = ends at hel hes hed
  refine ok_seq ?_
  walk_at "sx"
  refine sp_names hbt hp2 (by omega) (by omega) fun ls st3 hll hln hld hp3 => ?_
  walk_at "sx"
  refine ok_seq ?_
  walk_at "sx"
  refine sp_draw hbt hp3 (by omega) (by omega) fun r2 st4 r20 r21 hp4 => ?_
  walk_at "sx"
  obtain ⟨k2, rfl⟩ := Int.eq_ofNat_of_zero_le r20
  rw [show (4 : Int) + (k2 : Int) = ((4 + k2 : Nat) : Int) by omega, show (4 : Int) = ((4 : Nat) : Int) from rfl, cut_mid, ← List.map_drop, ← List.map_take]
  have hlab : ∀ x ∈ (ls.drop 4).take k2, Nm x := fun x hx => hln x (List.mem_of_mem_drop (List.mem_of_mem_take hx))
  have hlabl : ((ls.drop 4).take k2).length ≤ 12 := by rw [List.length_take]; omega
  refine ok_lcGo (i := 6) (fun j acc s => ∃ (os : List OfV) (st' : List MO), s = ⟨[some (.val (.hnd 0)), some (.val (.int many)), some (.val (.int top)), some (.val (.lst (ends.map .str))), some (.val (.lst (ls.map .str))), none, none], st'⟩ ∧ acc = os.map OfV.r8 ∧ os.map (·.nm) = ((ls.drop 4).take k2).take j ∧ (∀ o ∈ os, o.Wf ∧ o.src ∈ ends ∧ o.dst ∈ ends) ∧ j ≤ 12 ∧ Pn cells (B + 102 + 20 * (j : Int)) g st') ⟨[], st4, rfl, rfl, rfl, (fun o ho => absurd ho List.not_mem_nil), by omega, hp4.mono (by omega)⟩ ?_ ?_
  · rintro j x acc s hx ⟨os, st', rfl, rfl, hnm, hos, hj, hp'⟩
    rw [List.getElem?_map] at hx
    obtain ⟨y, hy, rfl⟩ := Option.map_eq_some_iff.mp hx
    have hj2 : j < ((ls.drop 4).take k2).length := (List.getElem?_eq_some_iff.mp hy).1
    have hosl : os.length ≤ 12 := by
      have := congrArg List.length hnm
      rw [List.length_map, List.length_take] at this
      omega
    walk_at "sx"
    refine sp_office hbt hp' (by omega) (by omega) (by omega) ht (hlab y (List.mem_of_getElem? hy)) hes fun o st2 hon how hp2 => ?_
    refine ⟨by rw [List.length_map]; omega, os ++ [o], st2, rfl, by rw [List.map_append]; rfl, ?_, fun p hp => ?_, by omega, hp2.mono (by omega)⟩
    · rw [List.map_append, hnm, List.take_succ, hy, ← hon]
      rfl
    · rcases List.mem_append.mp hp with hp | hp
      · exact hos p hp
      · rw [List.mem_singleton.mp hp]
        exact how
  rintro acc s ⟨os, st5, rfl, rfl, hnm, hos, _, hp5⟩
  rw [List.length_map, List.take_length] at hnm
  rw [List.length_map] at hp5
  have hosl : os.length ≤ 12 := by
    have := congrArg List.length hnm
    rw [List.length_map] at this
    omega
  walk_at "sx"
  refine ok_seq ?_
  refine Okx.imp (Q := fun fl s => fl = .nx ∧ ∃ (os : List OfV) (e6 : Option SV) (st' : List MO), s = ⟨[some (.val (.hnd 0)), some (.val (.int many)), some (.val (.int top)), some (.val (.lst (ends.map .str))), some (.val (.lst (ls.map .str))), some (.val (.lst (os.map OfV.r8))), e6], st'⟩ ∧ (∀ o ∈ os, o.Wf ∧ o.src ∈ ends ∧ o.dst ∈ ends) ∧ (os.map (·.nm)).Nodup ∧ os.length ≤ 16 ∧ Pn cells (B + 2000) g st') ?_ ?_
  · walk_at "sx"
    refine sp_draw hbt hp5 (by omega) (by omega) fun b st6 b0 b1 hp6 => ?_
    walk_at "sx"
    by_cases hb : (b == 0) = true
    · rw [if_pos hb]
      walk_at "sx"
      refine sp_shuffled (w := 40) hn hbt hp6 (by omega) (by rw [List.length_map]; omega) (fun v hv => by
        obtain ⟨x, rfl, hx⟩ := mem_nm hv
        exact gd_str (hes x hx).sOk.1 (Nat.le_trans (hes x hx).sOk.2 (by decide))) fun ys st7 hperm hp7 => ?_
      obtain ⟨es, hes2, rfl⟩ := perm_map hperm
      walk_at "sx"
      refine sp_ring hbt hp7 (by omega) (by rw [hes2.length_eq]; omega) (by rw [hes2.length_eq]; omega) (by omega) hln (fun x hx => hes x (hes2.mem_iff.mp hx)) fun os2 st8 hnm2 hos2 hp8 => ?_
      walk_at "sx"
      have hl2 : os2.length ≤ 4 := by
        have := congrArg List.length hnm2
        rw [List.length_map, List.length_take, hes2.length_eq] at this
        omega
      refine ⟨by rw [List.length_map, List.length_map]; omega, os ++ os2, none, st8, by rw [List.map_append], fun o ho => ?_, ?_, by rw [List.length_append]; omega, hp8.mono (by omega)⟩
      · rcases List.mem_append.mp ho with ho | ho
        · exact hos o ho
        · exact ⟨(hos2 o ho).1, hes2.mem_iff.mp (hos2 o ho).2.1, hes2.mem_iff.mp (hos2 o ho).2.2⟩
      · rw [List.map_append, hnm, hnm2]
        exact nodup_cut hld (by rw [hes2.length_eq]; omega)
    · rw [if_neg hb]
      walk_at "sx"
      refine ⟨os, none, st6, rfl, hos, ?_, by omega, hp6.mono (by omega)⟩
      rw [hnm]
      have := nodup_cut hld (a := 4) (b := k2) (k := 0) (by omega)
      rw [List.take_zero, List.append_nil] at this
      exact this
  rintro fl s ⟨rfl, os, e6, st6, rfl, hos, hnd, hol, hp6⟩
  walk_at "sx"
  refine sp_shuffled (w := 400) hn hbt hp6 (by omega) (by rw [List.length_map]; omega) (fun v hv => by
    obtain ⟨o, ho, rfl⟩ := List.mem_map.mp hv
    exact row_gd (hos o ho).1) fun ys st7 hperm hp7 => ?_
  obtain ⟨os2, hp2, rfl⟩ := perm_map hperm
  walk_at "sx"
  refine ⟨by omega, ?_⟩
  have em : mergeP [] [((Sum.inr (Str.ofString "ends") : L2.Key), PV.lst ((sortS ends).map .str)), (.inr (Str.ofString "offices"), PV.lst (os2.map OfV.r8))] = [(.inr (Str.ofString "ends"), PV.lst ((sortS ends).map .str)), (.inr (Str.ofString "offices"), PV.lst (os2.map OfV.r8))] := rfl
  rw [em]
  have hsp := sortS_perm ends
  refine h (sortS ends) os2 st7 ⟨fun z => ?_, by rw [hsp.length_eq]; omega, fun x hx => hes x (hsp.mem_iff.mp hx), hsp.nodup_iff.mpr hed, fun o ho => (hos o (hp2.mem_iff.mp ho)).1, fun o ho => ⟨hsp.mem_iff.mpr (hos o (hp2.mem_iff.mp ho)).2.1, hsp.mem_iff.mpr (hos o (hp2.mem_iff.mp ho)).2.2⟩, (hp2.map (·.nm)).nodup_iff.mpr hnd, by rw [hp2.length_eq]; omega⟩ (hp7.mono (by omega))
  have := hsp.length_eq
  rw [z, hel] at this
  cases this
theorem rawD_pl {ss : List Str} {os : List OfV} : PV.pls ((rawD ss os).map (·.2)) = true := by
  show ((PV.lst (ss.map .str)).pl && ((PV.lst (os.map OfV.r8)).pl && true)) = true
  have h1 : (PV.lst (ss.map .str)).pl = true := by rw [PV.pl]; exact pls_strs
  have h2 : (PV.lst (os.map OfV.r8)).pl = true := by
    rw [PV.pl]
    exact pls_iff.mpr fun x hx => by
      obtain ⟨o, _, rfl⟩ := List.mem_map.mp hx
      unfold OfV.r8 OfV.mostV
      cases o.most <;> rfl
  rw [h1, h2]
  rfl
end Lw
/-! M17t: the raw market frozen at its return. -/
namespace Lw
open PySem Dn
open L2 hiding bin
theorem sp_raw {n : Nat} {B many top : Int} {cells : List Int} {g st : List MO} {Q : PV → List MO → Prop} (hn : 1000 < n) (hbt : Bt cells) (hp : Pn cells B g st) (hB : B < 10000000) (hm : 0 ≤ many ∧ many ≤ 12) (ht : 1 ≤ top ∧ top ≤ 9)
    (h : ∀ (ss : List Str) (os : List OfV) st', RawOk ss os → Pn cells (B + 5000) g st' → Q (rawV ss os) st') : OkF (m_law_raw n [.hnd 0, .int many, .int top] st) Q := by
  unfold m_law_raw
  refine okF_fnT rfl (raw_body hn hbt hp hB hm ht fun ss os st' hr hp' => ?_)
  rw [fin_pnD hp hp' rawD_pl]
  exact h ss os st' hr hp'
end Lw
/-! Lv1: levels: theory; results of offices. -/
namespace Lw
open PySem Dn
open L2 hiding bin
abbrev Lv := Str → Int
def lvT (L : Lv) : Tb := fun c => some (L c)
theorem lvT_set {L : Lv} {c : Str} {a : Int} : setT (lvT L) c (some a) = lvT (fun x => if x = c then a else L x) := by
  funext x
  unfold setT lvT
  dsimp only
  by_cases h : x = c
  · rw [if_pos h, if_pos h]
  · rw [if_neg h, if_neg h]
def OfV.resO (o : OfV) (a : Int) : Option Int := if a < o.least then none else some (o.val a)
def mxO (r : Option Int) (a : Int) : Int := match r with
  | some r => max a r
  | none => a
def upL (L F : Lv) (o : OfV) : Lv := fun x => if x = o.dst then mxO (o.resO (L o.src)) (F x) else F x
def stepL (os : List OfV) (L : Lv) : Lv := os.foldl (upL L) L
def levL (os : List OfV) (L : Lv) : Nat → Lv
  | 0 => L
  | j + 1 => stepL os (levL os L j)
theorem mxO_comm {r q : Option Int} {a : Int} : mxO r (mxO q a) = mxO q (mxO r a) := by
  cases r <;> cases q <;> simp only [mxO]
  omega
theorem upL_comm {L F : Lv} {a b : OfV} : upL L (upL L F a) b = upL L (upL L F b) a := by
  funext x
  unfold upL
  by_cases h1 : x = a.dst <;> by_cases h2 : x = b.dst
  · simp only [if_pos h1, if_pos h2]
    exact mxO_comm
  · simp only [if_pos h1, if_neg h2]
  · simp only [if_neg h1, if_pos h2]
  · simp only [if_neg h1, if_neg h2]
theorem stepL_perm {os os' : List OfV} (h : os.Perm os') {L : Lv} : stepL os L = stepL os' L := h.foldl_eq' (fun x _ y _ z => upL_comm) L
theorem levL_perm {os os' : List OfV} (h : os.Perm os') {L : Lv} : ∀ j, levL os L j = levL os' L j
  | 0 => rfl
  | j + 1 => by
    show stepL os (levL os L j) = stepL os' (levL os' L j)
    rw [levL_perm h j, stepL_perm h]
theorem cap_bd {o : OfV} (w : o.Wf) {a : Int} (h : o.least ≤ a) : o.least ≤ o.cap a ∧ o.cap a ≤ a := by
  unfold OfV.cap
  cases hm : o.most with
  | none => exact ⟨h, Int.le_refl _⟩
  | some m =>
    have := w.most m hm
    show o.least ≤ min a m ∧ min a m ≤ a
    omega
theorem val_bd {o : OfV} (w : o.Wf) {a B : Int} (h : o.least ≤ a) (hB : a ≤ B) : 0 ≤ o.val a ∧ o.val a ≤ 9 * B := by
  have h1 := cap_bd w h
  have hl := w.least
  have hp := w.p
  have hf := w.fee
  unfold OfV.val
  have h2 : o.cap a * o.p ≤ o.cap a * 9 := Int.mul_le_mul_of_nonneg_left hp.2 (by omega)
  have h3 : 0 ≤ o.cap a * o.p := Int.mul_nonneg (by omega) (by omega)
  have h4 : o.cap a * o.p / o.q ≤ o.cap a * o.p := Int.ediv_le_self _ h3
  omega
structure LvB (B : Int) (L : Lv) : Prop where
  lo : ∀ c, -1 ≤ L c
  hi : ∀ c, L c ≤ B
theorem LvB.mono {B C : Int} {L : Lv} (h : LvB B L) (hc : B ≤ C) : LvB C L := ⟨h.lo, fun c => Int.le_trans (h.hi c) hc⟩
theorem upL_bd {B : Int} (hB : 0 ≤ B) {L F : Lv} (hL : LvB B L) (hF : LvB (9 * B) F) {o : OfV} (w : o.Wf) : LvB (9 * B) (upL L F o) := by
  have key : ∀ x, -1 ≤ upL L F o x ∧ upL L F o x ≤ 9 * B := fun x => by
    have h1 := hF.lo x
    have h2 := hF.hi x
    unfold upL
    split
    · unfold OfV.resO
      split
      · exact ⟨h1, h2⟩
      · have := val_bd w (a := L o.src) (B := B) (by omega) (hL.hi _)
        show -1 ≤ max _ _ ∧ max _ _ ≤ 9 * B
        omega
    · exact ⟨h1, h2⟩
  exact ⟨fun x => (key x).1, fun x => (key x).2⟩
theorem fold_bd {B : Int} (hB : 0 ≤ B) {L : Lv} (hL : LvB B L) : ∀ (os : List OfV) {F : Lv}, LvB (9 * B) F → (∀ o ∈ os, o.Wf) → LvB (9 * B) (os.foldl (upL L) F)
  | [], _, h, _ => h
  | o :: os, _, h, w => fold_bd hB hL os (upL_bd hB hL h (w o List.mem_cons_self)) fun p hp => w p (List.mem_cons_of_mem _ hp)
def capN : Nat → Nat
  | 0 => 1000000000000000000000000000000
  | j + 1 => 9 * capN j
theorem capN_pos : ∀ j, 0 < capN j
  | 0 => by decide
  | j + 1 => by
    have := capN_pos j
    show 0 < 9 * capN j
    omega
theorem capN_eq : ∀ j, capN j = 1000000000000000000000000000000 * 9 ^ j
  | 0 => by rw [Nat.pow_zero, Nat.mul_one]; rfl
  | j + 1 => by
    show 9 * capN j = _
    rw [capN_eq j, Nat.pow_succ, Nat.mul_comm 9, Nat.mul_assoc]
theorem capN_mono {i j : Nat} (h : i ≤ j) : capN i ≤ capN j := by
  induction h with
  | refl => exact Nat.le_refl _
  | step _ ih =>
    rename_i m _
    show capN i ≤ 9 * capN m
    omega
def bigB : Nat := 2 ^ 4000
def Sml (a : Int) : Prop := a.natAbs < bigB
theorem capN_big {j : Nat} (h : j ≤ 1010) : capN j < bigB := by
  refine Nat.lt_of_le_of_lt (capN_mono h) ?_
  rw [capN_eq]
  decide +kernel
theorem lev_bd {os : List OfV} (w : ∀ o ∈ os, o.Wf) {L : Lv} (hL : LvB 1000000000000000000000000000000 L) : ∀ j, LvB (capN j : Nat) (levL os L j)
  | 0 => hL
  | j + 1 => by
    have ih := lev_bd w hL j
    have hp := capN_pos j
    have := fold_bd (B := (capN j : Int)) (by omega) ih os (ih.mono (by omega)) w
    have e : ((capN (j + 1) : Nat) : Int) = 9 * (capN j : Int) := by
      show ((9 * capN j : Nat) : Int) = _
      omega
    rw [e]
    exact this
theorem LvB.sml {j : Nat} {L : Lv} (h : LvB (capN j : Nat) L) (hj : j ≤ 1010) (c : Str) : Sml (L c) := by
  have h1 := h.lo c
  have h2 := h.hi c
  have h3 := capN_big hj
  have h4 := capN_pos j
  show (L c).natAbs < bigB
  omega
theorem sml_of {a : Int} (h : -10000000 ≤ a ∧ a ≤ 10000000) : Sml a := Nat.lt_of_le_of_lt (show a.natAbs ≤ 10000000 by omega) (by decide +kernel)
theorem cmulB {a b : Int} (ha : Sml a) (hb : 0 ≤ b ∧ b ≤ 1000000) : L2.CMulW a b := L2.wide_mul (a := 4000) (b := 20) ha (Nat.lt_of_le_of_lt (show b.natAbs ≤ 1000000 by omega) (by decide)) (by decide) (by decide) (by decide)
theorem cap_sml {o : OfV} (w : o.Wf) {a : Int} (h : Sml a) : Sml (o.cap a) := by
  unfold OfV.cap
  cases hm : o.most with
  | none => exact h
  | some m =>
    have := w.most m hm
    have hl := w.least
    show Sml (min a m)
    rcases Int.le_total a m with c | c
    · rw [Int.min_eq_left c]
      exact h
    · rw [Int.min_eq_right c]
      exact sml_of (by omega)
theorem cap_lt {o : OfV} (w : o.Wf) {a : Int} : o.cap a < o.least ↔ a < o.least := by
  unfold OfV.cap
  cases hm : o.most with
  | none => exact Iff.rfl
  | some m =>
    have := (w.most m hm).1
    show min a m < o.least ↔ _
    omega
local macro_rules | `(tactic| walk_at "st") => `(tactic| try simp only [ok_ret, ok_bnd, ok_bin, ok_binL, ok_var, varK_val, varK_own, ok_brw, brwK_some, pv_val, pv_own, ok_asB, asBK_bl, ok_andT, ok_orT, ok_notT, ok_iteT, ok_andV, ok_notV, blK_bl,
  ok_argN, ok_argC, ok_fits, ok_tupM, ok_lstM, ok_parN, ok_parS, intK_int, ok_slM, ok_joinM, strK_str, ok_itemsM, ok_rngM, ok_seqM, seqK_nx, seqK_rt, seqK_bk, seqK_ct, ok_ifM, ok_retM, ok_dropM, ok_skipM, ok_asgM, ok_asgO, ok_par2, ok_par2VO, ok_par2OO, ok_par3,
  ok_callM, rtK_rt, rtK_nx, ok_loopM, ok_lcM, ok_dispM, ok_prsN, ok_prsC, ok_hget0, getK_some, ok_hputM, putK0, pc, pb, pl, ppb, ppl, plen, ok_add, ok_addS, ok_addT, ok_addL, ok_sub, ok_mul, ok_ixL, ok_ixT, ok_unp, unpK_tup, ok_set0, ok_setC, ok_app, ok_pop, ok_chk', chkK_some, flK_nx, flK_ct, flK_bk, flK_rt, sl_L, sl_T, sl_S, it_L, it_T, ok_sortL, ok_sortT, wip, ok_div, ok_mod, ok_pow, ok_rep, ok_ord, ok_fInt, ok_fAbs, ok_fNeg, ok_lenL, ok_lenT, ok_lenS, ok_fListL, ok_fListT, ok_fTupleL, ok_fTupleT, ok_eqI, ok_eqB, ok_eqS,
  okF_ok, okF_exc, ok_runM, ok_appA, ok_len1, ok_chain, isNonB_non, isNonB_int, isNonB_bl, isNonB_str, isNonB_tup, isNonB_lst, isNonB_obj, ok_isN, ok_max, ok_min, isi_int_int, isi_int_bl, isi_int_non, isi_int_str, isi_int_tup, isi_int_lst, isi_bool_int, isi_bool_bl, isi_str_str, isi_str_int, isi_str_bl, isi_str_non, isi_str_tup, isi_str_lst, isi_tuple_tup, isi_tuple_int, isi_tuple_bl, isi_tuple_non, isi_tuple_str, isi_tuple_lst,
  ok_conM, ok_fputM, fputK_new, conV_new, ok_methM,
  List.map_cons, List.map_nil, List.replicate_succ, List.replicate_zero, List.cons_append, List.nil_append, List.append_nil, List.getElem?_cons_zero, List.getElem?_cons_succ, List.set_cons_zero, List.set_cons_succ, Nat.reduceSub, decide_eq_true_eq, if_true, if_false, Bool.false_eq_true, Bool.not_true, Bool.not_false, beq_self_eq_true, Bool.true_eq_false, bne_self_eq_false, Bool.bne_true, Bool.bne_false, Nat.zero_add, Nat.reduceAdd, true_and, and_true, reduceCtorEq, List.length_cons, List.length_nil, f_name, f_ends, f_rate, f_fee, f_least])
local macro_rules | `(tactic| walk_at "sx") => `(tactic| try simp only [ok_ret, ok_bnd, ok_bin, ok_binL, ok_var, varK_val, varK_own, ok_brw, brwK_some, pv_val, pv_own, ok_asB, asBK_bl, ok_andT, ok_orT, ok_notT, ok_iteT, ok_andV, ok_notV, blK_bl,
  ok_argN, ok_argC, ok_fits, ok_tupM, ok_lstM, ok_parN, ok_parS, intK_int, ok_slM, ok_joinM, strK_str, ok_itemsM, ok_rngM, seqK_nx, seqK_rt, seqK_bk, seqK_ct, ok_ifM, ok_retM, ok_dropM, ok_skipM, ok_asgM, ok_asgO, ok_par2, ok_par2VO, ok_par2OO, ok_par3,
  ok_callM, rtK_rt, rtK_nx, ok_loopM, ok_lcM, ok_dispM, ok_prsN, ok_prsC, ok_hget0, getK_some, ok_hputM, putK0, pc, pb, pl, ppb, ppl, plen, ok_add, ok_addS, ok_addT, ok_addL, ok_sub, ok_mul, ok_ixL, ok_ixT, ok_unp, unpK_tup, ok_set0, ok_setC, ok_app, ok_pop, ok_chk', chkK_some, flK_nx, flK_ct, flK_bk, flK_rt, sl_L, sl_T, sl_S, it_L, it_T, ok_sortL, ok_sortT, wip, ok_div, ok_mod, ok_pow, ok_rep, ok_ord, ok_fInt, ok_fAbs, ok_fNeg, ok_lenL, ok_lenT, ok_lenS, ok_fListL, ok_fListT, ok_fTupleL, ok_fTupleT, ok_eqI, ok_eqB, ok_eqS,
  okF_ok, okF_exc, ok_runM, ok_appA, ok_len1, ok_chain, isNonB_non, isNonB_int, isNonB_bl, isNonB_str, isNonB_tup, isNonB_lst, isNonB_obj, ok_isN, ok_max, ok_min, isi_int_int, isi_int_bl, isi_int_non, isi_int_str, isi_int_tup, isi_int_lst, isi_bool_int, isi_bool_bl, isi_str_str, isi_str_int, isi_str_bl, isi_str_non, isi_str_tup, isi_str_lst, isi_tuple_tup, isi_tuple_int, isi_tuple_bl, isi_tuple_non, isi_tuple_str, isi_tuple_lst,
  ok_conM, ok_fputM, fputK_new, conV_new, ok_methM,
  List.map_cons, List.map_nil, List.replicate_succ, List.replicate_zero, List.cons_append, List.nil_append, List.append_nil, List.getElem?_cons_zero, List.getElem?_cons_succ, List.set_cons_zero, List.set_cons_succ, Nat.reduceSub, decide_eq_true_eq, if_true, if_false, Bool.false_eq_true, Bool.not_true, Bool.not_false, beq_self_eq_true, Bool.true_eq_false, bne_self_eq_false, Bool.bne_true, Bool.bne_false, Nat.zero_add, Nat.reduceAdd, true_and, and_true, reduceCtorEq, List.length_cons, List.length_nil, f_name, f_ends, f_rate, f_fee, f_least])
section
variable {n : Nat} {o : OfV} {st : List MO}
set_option maxHeartbeats 4000000 in
theorem eq_Office_result {a : Int} (w : o.Wf) (ha : Sml a) : m_Office_result n [o.pv, .int a] st = .ok (if a < o.least then .non else .int (max 0 (a * o.p / o.q - o.fee))) st := by
  have hp := w.p
  have hq := w.q
  refine OkFx.eq ?_
  unfold m_Office_result
  refine okF_fnF rfl ?_
  unfold b_Office_result
  walk_at "st"
  split
  · trivial
  · refine ⟨cmulB ha (by omega), cdiv100 (by omega) (by omega), rfl⟩
set_option maxHeartbeats 4000000 in
theorem eq_Capped_result {a m : Int} (w : o.Wf) (hm : o.most = some m) (ha : Sml a) : m_CappedOffice_result n [o.pv, .int a] st = .ok (if min a m < o.least then .non else .int (max 0 (min a m * o.p / o.q - o.fee))) st := by
  have hc : Sml (min a m) := by
    have := cap_sml w ha
    unfold OfV.cap at this
    rw [hm] at this
    exact this
  refine OkFx.eq ?_
  unfold m_CappedOffice_result
  refine okF_fnF rfl ?_
  unfold b_CappedOffice_result
  refine ok_seq ?_
  walk_at "sx"
  rw [ok_sup (d := o.pv) (m := m_Office_result) (c := "CappedOffice") (ks := KS6) (vs := o.vs6 m) rfl (by rw [OfV.pv_some hm]; rfl) rfl]
  walk_at "sx"
  rw [f_most hm]
  walk_at "sx"
  rw [eq_Office_result w hc]
  trivial
noncomputable def OfV.fResult (o : OfV) : Fn := match o.most with
  | none => m_Office_result
  | some _ => m_CappedOffice_result
theorem res_opt {a : Int} (w : o.Wf) : o.res a = optV (o.resO a) := by
  unfold OfV.res OfV.resO
  by_cases h : a < o.least
  · rw [if_pos h, if_pos ((cap_lt w).mpr h)]
    rfl
  · rw [if_neg h, if_neg fun z => h ((cap_lt w).mp z)]
    rfl
theorem eq_result {a : Int} (w : o.Wf) (ha : Sml a) : o.fResult n [o.pv, .int a] st = .ok (optV (o.resO a)) st := by
  rw [← res_opt w]
  unfold OfV.fResult OfV.res OfV.val OfV.cap
  cases hm : o.most with
  | none => exact eq_Office_result w ha
  | some m => exact eq_Capped_result w hm ha
theorem o_result {ra : M (List PV)} : methD tm_result_2 n "result" ra o.pv = bnd ra fun ds => runM o.fResult n (o.pv :: ds) := by
  unfold OfV.fResult
  cases hm : o.most with
  | none => rw [OfV.pv_none hm]; exact methD_obj rfl rfl
  | some m => rw [OfV.pv_some hm]; exact methD_obj rfl rfl
local macro_rules | `(tactic| walk_at "sx") => `(tactic| try simp only [ok_ret, ok_bnd, ok_bin, ok_binL, ok_var, varK_val, varK_own, ok_brw, brwK_some, pv_val, pv_own, ok_asB, asBK_bl, ok_andT, ok_orT, ok_notT, ok_iteT, ok_andV, ok_notV, blK_bl,
  ok_argN, ok_argC, ok_fits, ok_tupM, ok_lstM, ok_parN, ok_parS, intK_int, ok_slM, ok_joinM, strK_str, ok_itemsM, ok_rngM, seqK_nx, seqK_rt, seqK_bk, seqK_ct, ok_ifM, ok_retM, ok_dropM, ok_skipM, ok_asgM, ok_asgO, ok_par2, ok_par2VO, ok_par2OO, ok_par3,
  ok_callM, rtK_rt, rtK_nx, ok_loopM, ok_lcM, ok_dispM, ok_prsN, ok_prsC, ok_hget0, getK_some, ok_hputM, putK0, pc, pb, pl, ppb, ppl, plen, ok_add, ok_addS, ok_addT, ok_addL, ok_sub, ok_mul, ok_ixL, ok_ixT, ok_unp, unpK_tup, ok_set0, ok_setC, ok_app, ok_pop, ok_chk', chkK_some, flK_nx, flK_ct, flK_bk, flK_rt, sl_L, sl_T, sl_S, it_L, it_T, ok_sortL, ok_sortT, wip, ok_div, ok_mod, ok_pow, ok_rep, ok_ord, ok_fInt, ok_fAbs, ok_fNeg, ok_lenL, ok_lenT, ok_lenS, ok_fListL, ok_fListT, ok_fTupleL, ok_fTupleT, ok_eqI, ok_eqB, ok_eqS,
  okF_ok, okF_exc, ok_runM, ok_appA, ok_len1, ok_chain, isNonB_non, isNonB_int, isNonB_bl, isNonB_str, isNonB_tup, isNonB_lst, isNonB_obj, ok_isN, ok_max, ok_min, isi_int_int, isi_int_bl, isi_int_non, isi_int_str, isi_int_tup, isi_int_lst, isi_bool_int, isi_bool_bl, isi_str_str, isi_str_int, isi_str_bl, isi_str_non, isi_str_tup, isi_str_lst, isi_tuple_tup, isi_tuple_int, isi_tuple_bl, isi_tuple_non, isi_tuple_str, isi_tuple_lst,
  ok_conM, ok_fputM, fputK_new, conV_new, ok_methM,
  List.map_cons, List.map_nil, List.replicate_succ, List.replicate_zero, List.cons_append, List.nil_append, List.append_nil, List.getElem?_cons_zero, List.getElem?_cons_succ, List.set_cons_zero, List.set_cons_succ, Nat.reduceSub, decide_eq_true_eq, if_true, if_false, Bool.false_eq_true, Bool.not_true, Bool.not_false, beq_self_eq_true, Bool.true_eq_false, bne_self_eq_false, Bool.bne_true, Bool.bne_false, Nat.zero_add, Nat.reduceAdd, true_and, and_true, reduceCtorEq, List.length_cons, List.length_nil, a80, a81, a82, a83, a84, a85, a86, a87, ok_subT, ok_ordU, sz1])
set_option maxHeartbeats 8000000 in
/-- the law's own result of an office -/
theorem eq_law_result {a : Int} (w : o.Wf) (ha : Sml a) : m_law_result n [o.r8, .int a] st = .ok (optV (o.resO a)) st := by
  have hp := w.p
  have hq := w.q
  have hc := cap_sml w ha
  have er8 : o.r8 = .tup [.str o.nm, .str o.src, .str o.dst, .int o.p, .int o.q, .int o.fee, .int o.least, o.mostV] := rfl
  refine OkFx.eq ?_
  unfold m_law_result
  refine okF_fnT rfl ?_
  unfold b_law_result
  refine ok_seq ?_
  rw [er8]
  walk_at "sx"
  unfold OfV.resO
  by_cases h : a < o.least
  · rw [if_pos (by simpa using h), if_pos h, fin_self]
    exact ⟨rfl, rfl⟩
  · rw [if_neg (by simpa using h), if_neg h]
    refine ok_seq ?_
    unfold OfV.val
    cases hm : o.most with
    | none =>
      rw [mostV_none hm]
      have ec : o.cap a = a := by unfold OfV.cap; rw [hm]
      rw [ec]
      walk_at "sx"
      refine ⟨cmulB ha (by omega), cdiv100 (by omega) (by omega), ?_⟩
      rw [fin_self]
      exact ⟨rfl, rfl⟩
    | some m =>
      rw [mostV_some hm]
      have ec : o.cap a = min a m := by unfold OfV.cap; rw [hm]
      rw [ec] at hc ⊢
      walk_at "sx"
      refine ⟨cmulB hc (by omega), cdiv100 (by omega) (by omega), ?_⟩
      rw [fin_self]
      exact ⟨rfl, rfl⟩
end
end Lw
/-! Lv2: levels: one level after another, by the program and by the law. -/
namespace Lw
open PySem Dn
open L2 hiding bin
local macro_rules | `(tactic| walk_at "st") => `(tactic| try simp only [ok_ret, ok_bnd, ok_bin, ok_binL, ok_var, varK_val, varK_own, ok_brw, brwK_some, pv_val, pv_own, ok_asB, asBK_bl, ok_andT, ok_orT, ok_notT, ok_iteT, ok_andV, ok_notV, blK_bl,
  ok_argN, ok_argC, ok_fits, ok_tupM, ok_lstM, ok_parN, ok_parS, intK_int, ok_slM, ok_joinM, strK_str, ok_itemsM, ok_rngM, ok_seqM, seqK_nx, seqK_rt, seqK_bk, seqK_ct, ok_ifM, ok_retM, ok_dropM, ok_skipM, ok_asgM, ok_asgO, ok_par2, ok_par2VO, ok_par2OO, ok_par3,
  ok_callM, rtK_rt, rtK_nx, ok_loopM, ok_lcM, ok_dispM, ok_prsN, ok_prsC, ok_hget0, getK_some, ok_hputM, putK0, pc, pb, pl, ppb, ppl, plen, ok_add, ok_addS, ok_addT, ok_addL, ok_sub, ok_mul, ok_ixL, ok_ixT, ok_unp, unpK_tup, ok_set0, ok_setC, ok_app, ok_pop, ok_chk', chkK_some, flK_nx, flK_ct, flK_bk, flK_rt, sl_L, sl_T, sl_S, it_L, it_T, ok_sortL, ok_sortT, wip, ok_div, ok_mod, ok_pow, ok_rep, ok_ord, ok_fInt, ok_fAbs, ok_fNeg, ok_lenL, ok_lenT, ok_lenS, ok_fListL, ok_fListT, ok_fTupleL, ok_fTupleT, ok_eqI, ok_eqB, ok_eqS,
  okF_ok, okF_exc, ok_runM, ok_appA, ok_len1, ok_chain, isNonB_non, isNonB_int, isNonB_bl, isNonB_str, isNonB_tup, isNonB_lst, isNonB_obj, ok_isN, ok_max, ok_min, isi_int_int, isi_int_bl, isi_int_non, isi_int_str, isi_int_tup, isi_int_lst, isi_bool_int, isi_bool_bl, isi_str_str, isi_str_int, isi_str_bl, isi_str_non, isi_str_tup, isi_str_lst, isi_tuple_tup, isi_tuple_int, isi_tuple_bl, isi_tuple_non, isi_tuple_str, isi_tuple_lst,
  ok_conM, ok_fputM, fputK_new, conV_new, ok_methM,
  List.map_cons, List.map_nil, List.replicate_succ, List.replicate_zero, List.cons_append, List.nil_append, List.append_nil, List.getElem?_cons_zero, List.getElem?_cons_succ, List.set_cons_zero, List.set_cons_succ, Nat.reduceSub, decide_eq_true_eq, if_true, if_false, Bool.false_eq_true, Bool.not_true, Bool.not_false, beq_self_eq_true, Bool.true_eq_false, bne_self_eq_false, Bool.bne_true, Bool.bne_false, Nat.zero_add, Nat.reduceAdd, true_and, and_true, reduceCtorEq, List.length_cons, List.length_nil, ok_ordU, ok_ordS, ok_itemsDM, itd_L, itd_T, itd_D, ok_subT, ok_subL, ok_truT, tru_bl, ok_inTS, ok_lenUL, ok_lenUT, a20, a21, sz0, sz1, sz2, sz3, sz4, sz5, sz6, sz7, sz8, isNonB_opt, p_cur, p_off])
section
variable {n : Nat} {cs : List Str} {os : List OfV} {st : List MO}
theorem eq_need_currency {c : Str} (hc : c ∈ cs) : m_need_currency n [mkt cs os, .str c] st = .ok .non st := by
  refine OkFx.eq ?_
  unfold m_need_currency
  refine okF_fnT rfl ?_
  unfold b_need_currency
  walk_at "st"
  simp [hc, rtK, fin_self]
theorem eq_need_amount {a : Int} (h : 0 ≤ a ∧ a ≤ 1000000000000000000000000000000) : m_need_amount n [.int a] st = .ok .non st := by
  refine OkFx.eq ?_
  unfold m_need_amount
  refine okF_fnF rfl ?_
  unfold b_need_amount
  walk_at "st"
  rw [eq_need_integer h]
  walk_at "st"
theorem eq_is_amount {a : Int} : m_is_amount n [.int a] st = .ok (.bl (inB 0 1000000000000000000000000000000 a)) st := by
  refine OkFx.eq ?_
  unfold m_is_amount
  refine okF_fnF rfl ?_
  unfold b_is_amount
  walk_at "st"
  rw [eq_is_integer]
  walk_at "st"
theorem eq_is_pair {c : Str} {a : Int} (hc : Nm c) (ha : 0 ≤ a ∧ a ≤ 1000000000000000000000000000000) : m_is_pair n [holdV c a] st = .ok (.bl true) st := by
  refine OkFx.eq ?_
  unfold m_is_pair holdV
  refine okF_fnT rfl ?_
  unfold b_is_pair
  walk_at "st"
  rw [eq_is_name (by have := hc.le; omega), nameB_iff.mpr hc]
  walk_at "st"
  rw [eq_is_amount]
  walk_at "st"
  rw [fin_self]
  refine ⟨?_, rfl⟩
  simp [inB, ha]
theorem eq_need_holding {c : Str} {a : Int} (K : MkOk cs os) (hc : c ∈ cs) (ha : 0 ≤ a ∧ a ≤ 1000000000000000000000000000000) : m_need_holding n [mkt cs os, holdV c a] st = .ok (holdV c a) st := by
  refine OkFx.eq ?_
  unfold m_need_holding
  refine okF_fnT rfl ?_
  unfold b_need_holding
  walk_at "st"
  rw [eq_is_pair (K.nm c hc) ha]
  unfold holdV
  walk_at "st"
  rw [eq_need_currency hc]
  walk_at "st"
  rw [fin_self]
  exact ⟨rfl, rfl⟩
end
def startL (c : Str) (a : Int) : Lv := fun x => if x = c then a else -1
theorem start_bd {c : Str} {a : Int} (h : 0 ≤ a ∧ a ≤ 1000000000000000000000000000000) : LvB 1000000000000000000000000000000 (startL c a) := by
  have key : ∀ x, -1 ≤ startL c a x ∧ startL c a x ≤ 1000000000000000000000000000000 := fun x => by
    unfold startL
    split <;> omega
  exact ⟨fun x => (key x).1, fun x => (key x).2⟩
theorem tab_never {cs : List Str} : cs.map (fun c => ((Sum.inr c : L2.Key), PV.int (-1))) = tabD cs (lvT fun _ => -1) := rfl
theorem start_put {cs : List Str} {c : Str} {a : Int} (hc : c ∈ cs) : putP (tabD cs (lvT fun _ => -1)) (.inr c) (.int a) = tabD cs (lvT (startL c a)) := by
  have := tab_put (cs := cs) (N := lvT fun _ => -1) (c := c) (a := some a) hc
  rw [lvT_set] at this
  exact this
theorem lv_dic {st : List MO} {cs : List Str} {N : Tb} : dicP st (amtV cs N) = some (tabD cs N) := by
  unfold dicP amtV
  dsimp only
  rw [zip_fs]
theorem lv_fin {st : List MO} {cs : List Str} {N : Tb} : fin st (st ++ [.dic (tabD cs N)]) (.hnd st.length) = (amtV cs N, st) := by
  have ef := fin_dic (st := st) (more := [.dic (tabD cs N)]) (j := 0) rfl (by rw [tab_vals]; exact opt_pls)
  rw [Nat.add_zero] at ef
  exact ef
theorem ok_dictL {ds : List PV} {kvs : List (L2.Key × PV)} (h : pairsP ds = some kvs) {s : S} {E : PV → S → Prop} {Q : List (L2.Key × PV) → S → Prop} : Okx E (fDict (.lst ds)) s Q ↔ Q (mergeP [] kvs) s := by
  have e : fDict (.lst ds) s = .ok (mergeP [] kvs) s := by
    unfold fDict
    have : dicP s.sto (.lst ds) = none := rfl
    simp only [this, h]
  unfold Okx
  rw [e]
theorem pairs_never : ∀ ss : List Str, pairsP (ss.map fun c => PV.tup [.str c, .int (-1)]) = some (ss.map fun c => ((Sum.inr c : L2.Key), PV.int (-1)))
  | [] => rfl
  | c :: ss => by
    rw [List.map_cons, List.map_cons, pairsP, pairs_never ss]
    rfl
theorem dict_never {ss : List Str} (h : ss.Nodup) : mergeP [] (ss.map fun c => ((Sum.inr c : L2.Key), PV.int (-1))) = tabD ss (lvT fun _ => -1) := by
  have e := fold_putP (fk := fun c : Str => (Sum.inr c : L2.Key)) (fv := fun _ => PV.int (-1)) ss [] (nodup_inr h) (fun a _ => by simp)
  unfold mergeP
  rw [List.foldl_map]
  rw [List.nil_append] at e
  exact e
theorem raw_ends {ss : List Str} {os : List OfV} {n : Nat} {tab : List (Str × Fn)} {s : S} {E : PV → S → Prop} {Q : PV → S → Prop} : Okx E (subO tab n (rawV ss os) (.str "ends")) s Q ↔ Q (.lst (ss.map .str)) s := ok_subC rfl
theorem raw_offs {ss : List Str} {os : List OfV} {n : Nat} {tab : List (Str × Fn)} {s : S} {E : PV → S → Prop} {Q : PV → S → Prop} : Okx E (subO tab n (rawV ss os) (.str "offices")) s Q ↔ Q (.lst (os.map OfV.r8)) s := ok_subC rfl
theorem lvl_get {cs : List Str} {L : Lv} {c : Str} (h : c ∈ cs) {n : Nat} {tab : List (Str × Fn)} {s : S} {E : PV → S → Prop} {Q : PV → S → Prop} : Okx E (subO tab n (amtV cs (lvT L)) (.str c)) s Q ↔ Q (.int (L c)) s := amt_get h
theorem lvl_getH {cs : List Str} {L : Lv} {c : Str} (h : c ∈ cs) {st : List MO} {env : Dn.Env} {n : Nat} {tab : List (Str × Fn)} {E : PV → S → Prop} {Q : PV → S → Prop} : Okx E (subO tab n (.hnd st.length) (.str c)) ⟨env, st ++ [.dic (tabD cs (lvT L))]⟩ Q ↔ Q (.int (L c)) ⟨env, st ++ [.dic (tabD cs (lvT L))]⟩ := ok_subH last_get (tab_get h)
theorem upL_some {L F : Lv} {o : OfV} {r : Int} (h : o.resO (L o.src) = some r) : lvT (upL L F o) = if F o.dst < r then setT (lvT F) o.dst (some r) else lvT F := by
  unfold upL
  rw [h]
  split
  · rename_i c
    rw [lvT_set]
    congr 1
    funext x
    by_cases e : x = o.dst
    · rw [if_pos e, if_pos e, e]
      show max _ _ = _
      omega
    · rw [if_neg e, if_neg e]
  · rename_i c
    congr 1
    funext x
    by_cases e : x = o.dst
    · rw [if_pos e, e]
      show max _ _ = _
      omega
    · rw [if_neg e]
theorem upL_none {L F : Lv} {o : OfV} (h : o.resO (L o.src) = none) : upL L F o = F := by
  unfold upL
  rw [h]
  funext x
  split <;> rfl
local macro_rules | `(tactic| walk_at "st") => `(tactic| try simp only [ok_ret, ok_bnd, ok_bin, ok_binL, ok_var, varK_val, varK_own, ok_brw, brwK_some, pv_val, pv_own, ok_asB, asBK_bl, ok_andT, ok_orT, ok_notT, ok_iteT, ok_andV, ok_notV, blK_bl,
  ok_argN, ok_argC, ok_fits, ok_tupM, ok_lstM, ok_parN, ok_parS, intK_int, ok_slM, ok_joinM, strK_str, ok_itemsM, ok_rngM, ok_seqM, seqK_nx, seqK_rt, seqK_bk, seqK_ct, ok_ifM, ok_retM, ok_dropM, ok_skipM, ok_asgM, ok_asgO, ok_par2, ok_par2VO, ok_par2OO, ok_par3,
  ok_callM, rtK_rt, rtK_nx, ok_loopM, ok_lcM, ok_dispM, ok_prsN, ok_prsC, ok_hget0, getK_some, ok_hputM, putK0, pc, pb, pl, ppb, ppl, plen, ok_add, ok_addS, ok_addT, ok_addL, ok_sub, ok_mul, ok_ixL, ok_ixT, ok_unp, unpK_tup, ok_set0, ok_setC, ok_app, ok_pop, ok_chk', chkK_some, flK_nx, flK_ct, flK_bk, flK_rt, sl_L, sl_T, sl_S, it_L, it_T, ok_sortL, ok_sortT, wip, ok_div, ok_mod, ok_pow, ok_rep, ok_ord, ok_fInt, ok_fAbs, ok_fNeg, ok_lenL, ok_lenT, ok_lenS, ok_fListL, ok_fListT, ok_fTupleL, ok_fTupleT, ok_eqI, ok_eqB, ok_eqS,
  okF_ok, okF_exc, ok_runM, ok_appA, ok_len1, ok_chain, isNonB_non, isNonB_int, isNonB_bl, isNonB_str, isNonB_tup, isNonB_lst, isNonB_obj, ok_isN, ok_max, ok_min, isi_int_int, isi_int_bl, isi_int_non, isi_int_str, isi_int_tup, isi_int_lst, isi_bool_int, isi_bool_bl, isi_str_str, isi_str_int, isi_str_bl, isi_str_non, isi_str_tup, isi_str_lst, isi_tuple_tup, isi_tuple_int, isi_tuple_bl, isi_tuple_non, isi_tuple_str, isi_tuple_lst,
  ok_conM, ok_fputM, fputK_new, conV_new, ok_methM,
  List.map_cons, List.map_nil, List.replicate_succ, List.replicate_zero, List.cons_append, List.nil_append, List.append_nil, List.getElem?_cons_zero, List.getElem?_cons_succ, List.set_cons_zero, List.set_cons_succ, Nat.reduceSub, decide_eq_true_eq, if_true, if_false, Bool.false_eq_true, Bool.not_true, Bool.not_false, beq_self_eq_true, Bool.true_eq_false, bne_self_eq_false, Bool.bne_true, Bool.bne_false, Nat.zero_add, Nat.reduceAdd, true_and, and_true, reduceCtorEq, List.length_cons, List.length_nil, ok_ordU, ok_ordS, ok_itemsDM, itd_L, itd_T, itd_D, ok_subT, ok_subL, ok_truT, tru_bl, ok_inTS, ok_lenUL, ok_lenUT, ok_hndM, ok_dcL, a20, a21, sz0, sz1, sz2, sz3, sz4, sz5, sz6, sz7, sz8, isNonB_opt, p_source, p_goal, p_cur, p_off, o_result, raw_ends, raw_offs, a80, a81, a82, a83, a84, a85, a86, a87])
local macro_rules | `(tactic| walk_at "sx") => `(tactic| try simp only [ok_ret, ok_bnd, ok_bin, ok_binL, ok_var, varK_val, varK_own, ok_brw, brwK_some, pv_val, pv_own, ok_asB, asBK_bl, ok_andT, ok_orT, ok_notT, ok_iteT, ok_andV, ok_notV, blK_bl,
  ok_argN, ok_argC, ok_fits, ok_tupM, ok_lstM, ok_parN, ok_parS, intK_int, ok_slM, ok_joinM, strK_str, ok_itemsM, ok_rngM, seqK_nx, seqK_rt, seqK_bk, seqK_ct, ok_ifM, ok_retM, ok_dropM, ok_skipM, ok_asgM, ok_asgO, ok_par2, ok_par2VO, ok_par2OO, ok_par3,
  ok_callM, rtK_rt, rtK_nx, ok_loopM, ok_lcM, ok_dispM, ok_prsN, ok_prsC, ok_hget0, getK_some, ok_hputM, putK0, pc, pb, pl, ppb, ppl, plen, ok_add, ok_addS, ok_addT, ok_addL, ok_sub, ok_mul, ok_ixL, ok_ixT, ok_unp, unpK_tup, ok_set0, ok_setC, ok_app, ok_pop, ok_chk', chkK_some, flK_nx, flK_ct, flK_bk, flK_rt, sl_L, sl_T, sl_S, it_L, it_T, ok_sortL, ok_sortT, wip, ok_div, ok_mod, ok_pow, ok_rep, ok_ord, ok_fInt, ok_fAbs, ok_fNeg, ok_lenL, ok_lenT, ok_lenS, ok_fListL, ok_fListT, ok_fTupleL, ok_fTupleT, ok_eqI, ok_eqB, ok_eqS,
  okF_ok, okF_exc, ok_runM, ok_appA, ok_len1, ok_chain, isNonB_non, isNonB_int, isNonB_bl, isNonB_str, isNonB_tup, isNonB_lst, isNonB_obj, ok_isN, ok_max, ok_min, isi_int_int, isi_int_bl, isi_int_non, isi_int_str, isi_int_tup, isi_int_lst, isi_bool_int, isi_bool_bl, isi_str_str, isi_str_int, isi_str_bl, isi_str_non, isi_str_tup, isi_str_lst, isi_tuple_tup, isi_tuple_int, isi_tuple_bl, isi_tuple_non, isi_tuple_str, isi_tuple_lst,
  ok_conM, ok_fputM, fputK_new, conV_new, ok_methM,
  List.map_cons, List.map_nil, List.replicate_succ, List.replicate_zero, List.cons_append, List.nil_append, List.append_nil, List.getElem?_cons_zero, List.getElem?_cons_succ, List.set_cons_zero, List.set_cons_succ, Nat.reduceSub, decide_eq_true_eq, if_true, if_false, Bool.false_eq_true, Bool.not_true, Bool.not_false, beq_self_eq_true, Bool.true_eq_false, bne_self_eq_false, Bool.bne_true, Bool.bne_false, Nat.zero_add, Nat.reduceAdd, true_and, and_true, reduceCtorEq, List.length_cons, List.length_nil, ok_ordU, ok_ordS, ok_itemsDM, itd_L, itd_T, itd_D, ok_subT, ok_subL, ok_truT, tru_bl, ok_inTS, ok_lenUL, ok_lenUT, ok_hndM, ok_dcL, a20, a21, sz0, sz1, sz2, sz3, sz4, sz5, sz6, sz7, sz8, isNonB_opt, p_source, p_goal, p_cur, p_off, o_result, raw_ends, raw_offs, a80, a81, a82, a83, a84, a85, a86, a87])
section
variable {n : Nat} {cs ss : List Str} {os : List OfV} {st : List MO} {L : Lv}
set_option maxHeartbeats 8000000 in
theorem eq_first_level {c : Str} {a : Int} (K : MkOk cs os) (hc : c ∈ cs) : m_first_level n [mkt cs os, holdV c a] st = .ok (amtV cs (lvT (startL c a))) st := by
  have hz : sizeLine = 16777216 := sizeLine_eq
  have hcl := K.cl
  refine OkFx.eq ?_
  unfold m_first_level holdV
  refine okF_fnT rfl ?_
  unfold b_first_level
  refine ok_seq ?_
  walk_at "sx"
  refine ok_dcMap PV.str Sum.inr (fun _ => PV.int (-1)) (fun _ => rfl) (nodup_inr K.nd) (by omega) (fun c _ => by walk_at "st"; rfl) (fun c _ => by walk_at "st") ?_
  rw [tab_never]
  refine ok_seq ?_
  rw [ok_dputM]
  walk_at "sx"
  refine (dputK_dic last_get).mpr ?_
  refine ⟨by unfold tabD; rw [List.length_map]; omega, ?_⟩
  dsimp only
  rw [start_put hc, last_set, seqK_nx]
  walk_at "sx"
  rw [lv_fin]
  exact ⟨rfl, rfl⟩
set_option maxHeartbeats 8000000 in
theorem eq_law_first {c : Str} {a : Int} (r : RawOk ss os) (hc : c ∈ ss) : m_law_first n [rawV ss os, holdV c a] st = .ok (amtV ss (lvT (startL c a))) st := by
  have hz : sizeLine = 16777216 := sizeLine_eq
  have hsl := r.sl
  refine OkFx.eq ?_
  unfold m_law_first holdV
  refine okF_fnT rfl ?_
  unfold b_law_first
  refine ok_seq ?_
  walk_at "sx"
  refine ok_lcT (i := 3) (vs := [3]) (env := [some (.val (rawV ss os)), some (.val (.tup [.str c, .int a])), none, none]) (st := st) (as := ss) PV.str (fun _ => true) (fun c => PV.tup [.str c, .int (-1)]) (by rfl) (by simp) (by omega) (fun _ => by rfl) (fun c hc => ?_) (fun c hc _ => ?_) ?_
  · walk_at "sx"
  · walk_at "sx"
  rw [filter_true, ok_dictL (pairs_never ss), dict_never r.nd]
  walk_at "sx"
  refine ok_seq ?_
  rw [ok_dputM]
  walk_at "sx"
  refine (dputK_dic last_get).mpr ?_
  refine ⟨by unfold tabD; rw [List.length_map]; omega, ?_⟩
  dsimp only
  rw [start_put hc, last_set, seqK_nx]
  walk_at "sx"
  rw [lv_fin]
  exact ⟨rfl, rfl⟩
set_option maxHeartbeats 8000000 in
theorem eq_level_after (K : MkOk cs os) (hL : ∀ c, Sml (L c)) : m_level_after n [mkt cs os, amtV cs (lvT L)] st = .ok (amtV cs (lvT (stepL os L))) st := by
  have hz : sizeLine = 16777216 := sizeLine_eq
  have hcl := K.cl
  have hol := K.ol
  refine OkFx.eq ?_
  unfold m_level_after
  refine okF_fnT rfl ?_
  unfold b_level_after
  refine ok_seq ?_
  walk_at "sx"
  rw [ok_dict lv_dic]
  refine ok_seq ?_
  walk_at "sx"
  refine ok_for (fun t s => ∃ e3 e4 : Option SV, s = ⟨[some (.val (mkt cs os)), some (.val (amtV cs (lvT L))), some (.val (.hnd st.length)), e3, e4], st ++ [.dic (tabD cs (lvT ((os.take t).foldl (upL L) L)))]⟩) ⟨none, none, rfl⟩ ?_ ?_
  · rintro t x s hx ⟨e3, e4, rfl⟩
    rw [List.getElem?_map] at hx
    obtain ⟨o, ho, rfl⟩ := Option.map_eq_some_iff.mp hx
    have hmo := List.mem_of_getElem? ho
    have w := K.wf o hmo
    have hend := K.ends o hmo
    have ht : (os.take (t + 1)).foldl (upL L) L = upL L ((os.take t).foldl (upL L) L) o := by
      rw [List.take_succ, ho, List.foldl_append]
      rfl
    rw [ht]
    generalize (os.take t).foldl (upL L) L = F
    refine ok_seq ?_
    walk_at "sx"
    rw [lvl_get hend.1]
    walk_at "sx"
    rw [eq_result w (hL _)]
    walk_at "sx"
    cases hr : o.resO (L o.src) with
    | none =>
      rw [upL_none hr]
      walk_at "sx"
      exact ⟨_, _, rfl⟩
    | some r =>
      have eu := upL_some (F := F) hr
      simp only [Option.isNone, Bool.not_false, Bool.bne_true, if_true]
      rw [lvl_getH hend.2]
      simp only [optV]
      walk_at "sx"
      by_cases h : F o.dst < r
      · rw [if_pos h] at eu
        rw [if_pos (by simpa using h)]
        rw [ok_dputM]
        walk_at "sx"
        refine (dputK_dic last_get).mpr ?_
        refine ⟨by unfold tabD; rw [List.length_map]; omega, ?_⟩
        dsimp only
        have etp : putP (tabD cs (lvT F)) (.inr o.dst) (.int r) = tabD cs (setT (lvT F) o.dst (some r)) := tab_put (a := some r) hend.2
        rw [etp, ← eu, last_set]
        exact ⟨_, _, rfl⟩
      · rw [if_neg h] at eu
        rw [if_neg (by simpa using h), eu]
        exact ⟨_, _, rfl⟩
  · rintro s ⟨e3, e4, rfl⟩
    rw [List.length_map, List.take_length, seqK_nx]
    walk_at "sx"
    rw [lv_fin]
    exact ⟨rfl, rfl⟩
set_option maxHeartbeats 8000000 in
theorem eq_law_level (r : RawOk ss os) (hL : ∀ c, Sml (L c)) : m_law_level n [rawV ss os, amtV ss (lvT L)] st = .ok (amtV ss (lvT (stepL os L))) st := by
  have hz : sizeLine = 16777216 := sizeLine_eq
  have hcl := r.sl
  have hol := r.ol
  refine OkFx.eq ?_
  unfold m_law_level
  refine okF_fnT rfl ?_
  unfold b_law_level
  refine ok_seq ?_
  walk_at "sx"
  rw [ok_dict lv_dic]
  refine ok_seq ?_
  walk_at "sx"
  refine ok_for (fun t s => ∃ e3 e4 : Option SV, s = ⟨[some (.val (rawV ss os)), some (.val (amtV ss (lvT L))), some (.val (.hnd st.length)), e3, e4], st ++ [.dic (tabD ss (lvT ((os.take t).foldl (upL L) L)))]⟩) ⟨none, none, rfl⟩ ?_ ?_
  · rintro t x s hx ⟨e3, e4, rfl⟩
    rw [List.getElem?_map] at hx
    obtain ⟨o, ho, rfl⟩ := Option.map_eq_some_iff.mp hx
    have hmo := List.mem_of_getElem? ho
    have w := r.wf o hmo
    have hend := r.ends o hmo
    have ht : (os.take (t + 1)).foldl (upL L) L = upL L ((os.take t).foldl (upL L) L) o := by
      rw [List.take_succ, ho, List.foldl_append]
      rfl
    rw [ht]
    generalize (os.take t).foldl (upL L) L = F
    have er8 : o.r8 = .tup [.str o.nm, .str o.src, .str o.dst, .int o.p, .int o.q, .int o.fee, .int o.least, o.mostV] := rfl
    refine ok_seq ?_
    rw [er8]
    walk_at "sx"
    rw [lvl_get hend.1]
    walk_at "sx"
    rw [← er8, eq_law_result w (hL _)]
    walk_at "sx"
    cases hr : o.resO (L o.src) with
    | none =>
      rw [upL_none hr]
      walk_at "sx"
      exact ⟨_, _, rfl⟩
    | some r =>
      have eu := upL_some (F := F) hr
      simp only [Option.isNone, Bool.not_false, Bool.bne_true, if_true]
      rw [er8]
      walk_at "sx"
      rw [lvl_getH hend.2]
      simp only [optV]
      walk_at "sx"
      by_cases h : F o.dst < r
      · rw [if_pos h] at eu
        rw [if_pos (by simpa using h)]
        rw [ok_dputM]
        walk_at "sx"
        refine (dputK_dic last_get).mpr ?_
        refine ⟨by unfold tabD; rw [List.length_map]; omega, ?_⟩
        dsimp only
        have etp : putP (tabD ss (lvT F)) (.inr o.dst) (.int r) = tabD ss (setT (lvT F) o.dst (some r)) := tab_put (a := some r) hend.2
        rw [etp, ← eu, last_set]
        exact ⟨_, _, rfl⟩
      · rw [if_neg h] at eu
        rw [if_neg (by simpa using h), eu]
        exact ⟨_, _, rfl⟩
  · rintro s ⟨e3, e4, rfl⟩
    rw [List.length_map, List.take_length, seqK_nx]
    walk_at "sx"
    rw [lv_fin]
    exact ⟨rfl, rfl⟩
end
end Lw
/-! Lv3: the fewest exchanges, by the program and by the law. -/
namespace Lw
open PySem Dn
open L2 hiding bin
theorem ok_repO {ca cb : M PV} {s : S} {E : PV → S → Prop} {QL : List PV → S → Prop} : Okx E (repO ca cb) s QL ↔ Okx E ca s (fun a s1 => Okx E cb s1 (fun b s2 => ∃ xs, repP a b = some xs ∧ QL xs s2)) := by
  unfold repO
  rw [ok_bnd]
  simp only [ok_bnd, ok_lft]
theorem rep1 {x : PV} {b : Bool} {R : List PV → Prop} : (∃ xs, repP (.lst [x]) (.int (if b = true then 1 else 0)) = some xs ∧ R xs) ↔ R (if b = true then [x] else []) := by
  have hz : sizeLine = 16777216 := sizeLine_eq
  have e1 : repP (.lst [x]) (.int 1) = some [x] := by
    unfold repP
    exact if_pos ⟨by decide, by rw [hz]; exact (show 1 ≤ 16777216 by decide)⟩
  have e0 : repP (.lst [x]) (.int 0) = some [] := by
    unfold repP
    exact if_pos ⟨by decide, by rw [hz]; exact (show 0 ≤ 16777216 by decide)⟩
  cases b with
  | true =>
    simp only [if_true, e1]
    exact ⟨fun ⟨_, e, h⟩ => by cases e; exact h, fun h => ⟨_, rfl, h⟩⟩
  | false =>
    simp only [Bool.false_eq_true, if_false, e0]
    exact ⟨fun ⟨_, e, h⟩ => by cases e; exact h, fun h => ⟨_, rfl, h⟩⟩
theorem opt_reprs {a : Option Int} (h : ∀ x, a = some x → x.natAbs < 10 ^ 40) : ∃ t, reprP (optV a) = some (.str t) := by
  cases a with
  | none => exact ⟨rp .non, by
      have := (ok_repr (E := fun _ _ => False) (s := ⟨[], []⟩) (Q := fun d _ => d = .str (rp .non)) (gd_non (n := 5) (w := 40)) (by decide) (by decide)).mpr rfl
      obtain ⟨_, e, q⟩ := ok_lft.mp this
      rw [show optV none = .non from rfl, e, q]⟩
  | some k =>
    have hk := h k rfl
    have hl : k.natAbs.log2 < 150 := log_lt (Nat.lt_trans hk (by decide)) (by decide)
    refine ⟨(PyData.int k).shown, ?_⟩
    have h4 : (PyData.int k).shown.length ≤ 41 := by
      have e := int_text_length_le10 (k := 40) (by decide) hk
      show (Str.ofString (toString k)).length ≤ 41
      rw [ofString_length]
      exact e
    have := (ok_reprD (E := fun _ _ => False) (s := ⟨[], []⟩) (Q := fun d _ => d = .str (PyData.int k).shown) (v := .int k) (d := .int k) (by rw [PV.toD]) (by rw [PyData.showable, decide_eq_true_eq]; omega) rfl (by rw [PyData.depth]; exact Nat.zero_le _) (by rw [sizeLine_eq]; omega)).mpr rfl
    obtain ⟨_, e, q⟩ := ok_lft.mp this
    rw [show optV (some k) = .int k from rfl, e, q]
/-- the least index with so many coins, none if it is beyond m -/
def IsFew (f : Nat → Int) (k : Int) (m : Nat) : Option Nat → Prop
  | none => ∀ i, i ≤ m → f i < k
  | some j => j ≤ m ∧ k ≤ f j ∧ ∀ i, i < j → f i < k
theorem IsFew.uniq {f : Nat → Int} {k : Int} {m : Nat} {x y : Option Nat} (hx : IsFew f k m x) (hy : IsFew f k m y) : x = y := by
  cases x with
  | none =>
    cases y with
    | none => rfl
    | some j =>
      have := hx j hy.1
      have := hy.2.1
      omega
  | some i =>
    cases y with
    | none =>
      have := hy i hx.1
      have := hx.2.1
      omega
    | some j =>
      have h1 := hx.2.1
      have h2 := hy.2.1
      rcases Nat.lt_trichotomy i j with c | c | c
      · have := hy.2.2 i c
        omega
      · rw [c]
      · have := hx.2.2 j c
        omega
def cutF (m : Nat) : Option Nat → Option Nat
  | some j => if j ≤ m then some j else none
  | none => none
theorem IsFew.cut {f : Nat → Int} {k : Int} {m M : Nat} {x : Option Nat} (h : IsFew f k M x) (hm : m ≤ M) : IsFew f k m (cutF m x) := by
  cases x with
  | none => exact fun i hi => h i (Nat.le_trans hi hm)
  | some j =>
    unfold cutF
    dsimp only
    split
    · exact ⟨by assumption, h.2⟩
    · exact fun i hi => h.2.2 i (by omega)
def optN : Option Nat → PV
  | none => .non
  | some j => .int (j : Int)
theorem optN_repr {x : Option Nat} (h : ∀ j, x = some j → j ≤ 1000) : ∃ t, reprP (optN x) = some (.str t) := by
  cases x with
  | none => exact opt_reprs (a := none) fun _ e => by cases e
  | some j =>
    have := h j rfl
    exact opt_reprs (a := some (j : Int)) fun y e => by
      cases e
      exact Nat.lt_of_le_of_lt (show (j : Int).natAbs ≤ 1000 by omega) (by decide)
theorem ok_apD {ca : M (List PV)} {dp : List PV} {s : S} {E : PV → S → Prop} {Q : List PV → S → Prop} : Okx E (apD ca dp) s Q ↔ Okx E ca s (fun a s1 => Q (a ++ dp) s1) := by
  unfold apD
  rw [ok_bnd]
  exact Iff.rfl
theorem atI_end {xs : List PV} {y : PV} : L2.atI (xs ++ [y]) (-1) = some y := by
  unfold L2.atI
  have : L2.ixN (xs ++ [y]).length (-1) = some xs.length := by
    unfold L2.ixN
    simp
    omega
  rw [this]
  simp
def lvsV (cs : List Str) (os : List OfV) (L : Lv) (j : Nat) : List PV := (List.range j).map fun i => amtV cs (lvT (levL os L i))
theorem lvs_succ {cs : List Str} {os : List OfV} {L : Lv} {j : Nat} : lvsV cs os L (j + 1) = lvsV cs os L j ++ [amtV cs (lvT (levL os L j))] := by
  unfold lvsV
  rw [List.range_succ, List.map_append]
  rfl
theorem lvs_len {cs : List Str} {os : List OfV} {L : Lv} {j : Nat} : (lvsV cs os L j).length = j := by
  unfold lvsV
  rw [List.length_map, List.length_range]
local macro_rules | `(tactic| walk_at "st") => `(tactic| try simp only [ok_ret, ok_bnd, ok_bin, ok_binL, ok_var, varK_val, varK_own, ok_brw, brwK_some, pv_val, pv_own, ok_asB, asBK_bl, ok_andT, ok_orT, ok_notT, ok_iteT, ok_andV, ok_notV, blK_bl,
  ok_argN, ok_argC, ok_fits, ok_tupM, ok_lstM, ok_parN, ok_parS, intK_int, ok_slM, ok_joinM, strK_str, ok_itemsM, ok_rngM, ok_seqM, seqK_nx, seqK_rt, seqK_bk, seqK_ct, ok_ifM, ok_retM, ok_dropM, ok_skipM, ok_asgM, ok_asgO, ok_par2, ok_par2VO, ok_par2OO, ok_par3,
  ok_callM, rtK_rt, rtK_nx, ok_loopM, ok_lcM, ok_dispM, ok_prsN, ok_prsC, ok_hget0, getK_some, ok_hputM, putK0, pc, pb, pl, ppb, ppl, plen, ok_add, ok_addS, ok_addT, ok_addL, ok_sub, ok_mul, ok_ixL, ok_ixT, ok_unp, unpK_tup, ok_set0, ok_setC, ok_app, ok_pop, ok_chk', chkK_some, flK_nx, flK_ct, flK_bk, flK_rt, sl_L, sl_T, sl_S, it_L, it_T, ok_sortL, ok_sortT, wip, ok_div, ok_mod, ok_pow, ok_rep, ok_ord, ok_fInt, ok_fAbs, ok_fNeg, ok_lenL, ok_lenT, ok_lenS, ok_fListL, ok_fListT, ok_fTupleL, ok_fTupleT, ok_eqI, ok_eqB, ok_eqS,
  okF_ok, okF_exc, ok_runM, ok_appA, ok_len1, ok_chain, isNonB_non, isNonB_int, isNonB_bl, isNonB_str, isNonB_tup, isNonB_lst, isNonB_obj, ok_isN, ok_max, ok_min, isi_int_int, isi_int_bl, isi_int_non, isi_int_str, isi_int_tup, isi_int_lst, isi_bool_int, isi_bool_bl, isi_str_str, isi_str_int, isi_str_bl, isi_str_non, isi_str_tup, isi_str_lst, isi_tuple_tup, isi_tuple_int, isi_tuple_bl, isi_tuple_non, isi_tuple_str, isi_tuple_lst,
  ok_conM, ok_fputM, fputK_new, conV_new, ok_methM,
  List.map_cons, List.map_nil, List.replicate_succ, List.replicate_zero, List.cons_append, List.nil_append, List.append_nil, List.getElem?_cons_zero, List.getElem?_cons_succ, List.set_cons_zero, List.set_cons_succ, Nat.reduceSub, decide_eq_true_eq, if_true, if_false, Bool.false_eq_true, Bool.not_true, Bool.not_false, beq_self_eq_true, Bool.true_eq_false, bne_self_eq_false, Bool.bne_true, Bool.bne_false, Nat.zero_add, Nat.reduceAdd, true_and, and_true, reduceCtorEq, List.length_cons, List.length_nil, ok_ordU, ok_ordS, ok_itemsDM, itd_L, itd_T, itd_D, ok_subT, ok_subL, ok_truT, tru_bl, ok_inTS, ok_lenUL, ok_lenUT, ok_hndM, ok_dcL, a20, a21, sz0, sz1, sz2, sz3, sz4, sz5, sz6, sz7, sz8, isNonB_opt, p_source, p_goal, p_cur, p_off, o_result, raw_ends, raw_offs, a80, a81, a82, a83, a84, a85, a86, a87])
local macro_rules | `(tactic| walk_at "sx") => `(tactic| try simp only [ok_ret, ok_bnd, ok_bin, ok_binL, ok_var, varK_val, varK_own, ok_brw, brwK_some, pv_val, pv_own, ok_asB, asBK_bl, ok_andT, ok_orT, ok_notT, ok_iteT, ok_andV, ok_notV, blK_bl,
  ok_argN, ok_argC, ok_fits, ok_tupM, ok_lstM, ok_parN, ok_parS, intK_int, ok_slM, ok_joinM, strK_str, ok_itemsM, ok_rngM, seqK_nx, seqK_rt, seqK_bk, seqK_ct, ok_ifM, ok_retM, ok_dropM, ok_skipM, ok_asgM, ok_asgO, ok_par2, ok_par2VO, ok_par2OO, ok_par3,
  ok_callM, rtK_rt, rtK_nx, ok_loopM, ok_lcM, ok_dispM, ok_prsN, ok_prsC, ok_hget0, getK_some, ok_hputM, putK0, pc, pb, pl, ppb, ppl, plen, ok_add, ok_addS, ok_addT, ok_addL, ok_sub, ok_mul, ok_ixL, ok_ixT, ok_unp, unpK_tup, ok_set0, ok_setC, ok_app, ok_pop, ok_chk', chkK_some, flK_nx, flK_ct, flK_bk, flK_rt, sl_L, sl_T, sl_S, it_L, it_T, ok_sortL, ok_sortT, wip, ok_div, ok_mod, ok_pow, ok_rep, ok_ord, ok_fInt, ok_fAbs, ok_fNeg, ok_lenL, ok_lenT, ok_lenS, ok_fListL, ok_fListT, ok_fTupleL, ok_fTupleT, ok_eqI, ok_eqB, ok_eqS,
  okF_ok, okF_exc, ok_runM, ok_appA, ok_len1, ok_chain, isNonB_non, isNonB_int, isNonB_bl, isNonB_str, isNonB_tup, isNonB_lst, isNonB_obj, ok_isN, ok_max, ok_min, isi_int_int, isi_int_bl, isi_int_non, isi_int_str, isi_int_tup, isi_int_lst, isi_bool_int, isi_bool_bl, isi_str_str, isi_str_int, isi_str_bl, isi_str_non, isi_str_tup, isi_str_lst, isi_tuple_tup, isi_tuple_int, isi_tuple_bl, isi_tuple_non, isi_tuple_str, isi_tuple_lst,
  ok_conM, ok_fputM, fputK_new, conV_new, ok_methM,
  List.map_cons, List.map_nil, List.replicate_succ, List.replicate_zero, List.cons_append, List.nil_append, List.append_nil, List.getElem?_cons_zero, List.getElem?_cons_succ, List.set_cons_zero, List.set_cons_succ, Nat.reduceSub, decide_eq_true_eq, if_true, if_false, Bool.false_eq_true, Bool.not_true, Bool.not_false, beq_self_eq_true, Bool.true_eq_false, bne_self_eq_false, Bool.bne_true, Bool.bne_false, Nat.zero_add, Nat.reduceAdd, true_and, and_true, reduceCtorEq, List.length_cons, List.length_nil, ok_ordU, ok_ordS, ok_itemsDM, itd_L, itd_T, itd_D, ok_subT, ok_subL, ok_truT, tru_bl, ok_inTS, ok_lenUL, ok_lenUT, ok_hndM, ok_dcL, a20, a21, sz0, sz1, sz2, sz3, sz4, sz5, sz6, sz7, sz8, isNonB_opt, p_source, p_goal, p_cur, p_off, o_result, raw_ends, raw_offs, a80, a81, a82, a83, a84, a85, a86, a87])
section
variable {n : Nat} {cs ss : List Str} {os : List OfV} {st : List MO} {L : Lv}
set_option maxHeartbeats 8000000 in
theorem sp_levels_to {c g : Str} {a k : Int} {m : Nat} {Q : PV → List MO → Prop} (hn : 2000 < n) (K : MkOk cs os) (hc : c ∈ cs) (hg : g ∈ cs) (ha : 0 ≤ a ∧ a ≤ 1000000000000000000000000000000) (hm : m ≤ 1000)
    (h : ∀ x, IsFew (fun j => levL os (startL c a) j g) k m x → Q (match x with | none => .non | some j => .lst (lvsV cs os (startL c a) (j + 1))) st) : OkF (m_levels_to n [mkt cs os, holdV c a, .str g, .int k, .int m] st) Q := by
  have hz : sizeLine = 16777216 := sizeLine_eq
  have hB := fun j => lev_bd (os := os) K.wf (start_bd (c := c) ha) j
  unfold m_levels_to
  refine okF_fnT rfl ?_
  unfold b_levels_to
  refine ok_seq ?_
  walk_at "sx"
  rw [eq_first_level K hc]
  walk_at "sx"
  refine ok_seq ?_
  have e0 : [amtV cs (lvT (startL c a))] = lvsV cs os (startL c a) 1 := rfl
  rw [e0]
  generalize startL c a = L at hB h
  refine ok_while (fun q s => ∃ j : Nat, q + j = m ∧ s = ⟨[some (.val (mkt cs os)), some (.val (holdV c a)), some (.val (.str g)), some (.val (.int k)), some (.val (.int m)), some (.own (lvsV cs os L (j + 1)))], st⟩ ∧ ∀ i, i < j → levL os L i g < k) (m := m) ⟨0, rfl, rfl, fun i hi => absurd hi (Nat.not_lt_zero _)⟩ (by omega) ?_
  rintro q s ⟨j, hq, rfl, hj⟩
  have hlen : (lvsV cs os L (j + 1)).length = j + 1 := lvs_len
  have hlast : L2.atI (lvsV cs os L (j + 1)) (-1) = some (amtV cs (lvT (levL os L j))) := by
    rw [lvs_succ]
    exact atI_end
  walk_at "sx"
  refine ⟨_, hlast, ?_⟩
  rw [lvl_get hg]
  walk_at "sx"
  by_cases hk : levL os L j g < k
  · rw [if_pos (by simpa using hk)]
    refine ok_seq ?_
    walk_at "sx"
    rw [hlen]
    by_cases hm2 : m < j + 1
    · rw [if_pos (by simpa using (by omega : (m : Int) < ((j + 1 : Nat) : Int)))]
      walk_at "sx"
      rw [fin_self]
      refine h none fun i hi => ?_
      by_cases e : i = j
      · rw [e]
        exact hk
      · exact hj i (by omega)
    · rw [if_neg (by simpa using (by omega : ¬ (m : Int) < ((j + 1 : Nat) : Int)))]
      walk_at "sx"
      refine ⟨⟨_, rfl⟩, _, hlast, ?_⟩
      rw [eq_level_after K fun x => (hB j).sml (by omega) x]
      walk_at "sx"
      rw [ok_push rfl (by rw [hlen]; omega)]
      refine ⟨q - 1, by omega, j + 1, by omega, ?_, fun i hi => ?_⟩
      · rw [lvs_succ (j := j + 1)]
        rfl
      · by_cases e : i = j
        · rw [e]
          exact hk
        · exact hj i (by omega)
  · rw [if_neg (by simpa using hk)]
    walk_at "sx"
    rw [fin_self]
    exact h (some j) ⟨by omega, Int.not_lt.mp hk, hj⟩
set_option maxHeartbeats 8000000 in
theorem sp_fewest {c g : Str} {a k : Int} {m : Nat} {Q : PV → List MO → Prop} (hn : 2000 < n) (K : MkOk cs os) (hc : c ∈ cs) (hg : g ∈ cs) (ha : 0 ≤ a ∧ a ≤ 1000000000000000000000000000000) (hk : 0 ≤ k ∧ k ≤ 1000000000000000000000000000000) (hm : m ≤ 1000)
    (h : ∀ x, IsFew (fun j => levL os (startL c a) j g) k m x → Q (optN x) st) : OkF (m_fewest n [mkt cs os, holdV c a, .str g, .int k, .int m] st) Q := by
  have hz : sizeLine = 16777216 := sizeLine_eq
  unfold m_fewest
  refine okF_fnT rfl ?_
  unfold b_fewest
  refine ok_seq ?_
  walk_at "sx"
  have eg : m_need_goal n [mkt cs os, holdV c a, .str g, .int k, .int m] st = .ok (holdV c a) st := by
    refine OkFx.eq ?_
    unfold m_need_goal
    refine okF_fnT rfl ?_
    unfold b_need_goal
    refine ok_seq ?_
    walk_at "sx"
    rw [eq_need_holding K hc ha]
    walk_at "st"
    rw [eq_need_currency hg]
    walk_at "st"
    rw [eq_need_amount hk]
    walk_at "st"
    rw [eq_need_integer (by omega)]
    walk_at "st"
    rw [fin_self]
    exact ⟨rfl, rfl⟩
  rw [eg]
  walk_at "sx"
  refine ok_seq ?_
  walk_at "sx"
  refine sp_levels_to hn K hc hg ha hm fun x hx => ?_
  have hh := h x hx
  cases x with
  | none =>
    walk_at "sx"
    rw [fin_self]
    exact hh
  | some j =>
    walk_at "sx"
    rw [lvs_len, fin_self]
    have e : (((j + 1 : Nat) : Int) - 1) = (j : Int) := by omega
    rw [e]
    exact hh
set_option maxHeartbeats 8000000 in
theorem sp_law_levels {c g : Str} {a k : Int} {m : Nat} {Q : PV → List MO → Prop} (r : RawOk ss os) (hc : c ∈ ss) (hg : g ∈ ss) (ha : 0 ≤ a ∧ a ≤ 1000000000000000000000000000000) (hm : m ≤ 1000)
    (h : ∀ x, IsFew (fun j => levL os (startL c a) j g) k m x → Q (optN x) st) : OkF (m_law_levels n [rawV ss os, holdV c a, .str g, .int k, .int m] st) Q := by
  have hz : sizeLine = 16777216 := sizeLine_eq
  have hB := fun j => lev_bd (os := os) r.wf (start_bd (c := c) ha) j
  unfold m_law_levels
  refine okF_fnT rfl ?_
  unfold b_law_levels
  refine ok_seq ?_
  walk_at "sx"
  rw [eq_law_first r hc]
  walk_at "sx"
  generalize startL c a = L at hB h
  rw [ok_seqM]
  walk_at "sx"
  refine ⟨_, rngP_nat (by omega) (by omega), ?_⟩
  refine ok_for (fun j s => ∃ e6 : Option SV, s = ⟨[some (.val (rawV ss os)), some (.val (holdV c a)), some (.val (.str g)), some (.val (.int k)), some (.val (.int m)), some (.val (amtV ss (lvT (levL os L j)))), e6], st⟩ ∧ ∀ i, i < j → levL os L i g < k) ⟨none, rfl, fun i hi => absurd hi (Nat.not_lt_zero _)⟩ ?_ ?_
  · rintro j x s hx ⟨e6, rfl, hj⟩
    obtain ⟨rfl, hjm⟩ := rng_get hx
    refine ok_seq ?_
    walk_at "sx"
    rw [lvl_get hg]
    walk_at "sx"
    by_cases hk : k ≤ levL os L j g
    · rw [if_pos (by simpa using hk)]
      walk_at "sx"
      rw [fin_self]
      exact h (some j) ⟨by omega, hk, hj⟩
    · rw [if_neg (by simpa using hk)]
      walk_at "sx"
      rw [eq_law_level r fun x => (hB j).sml (by omega) x]
      walk_at "sx"
      refine ⟨_, rfl, fun i hi => ?_⟩
      by_cases e : i = j
      · rw [e]
        omega
      · exact hj i (by omega)
  · rintro s ⟨e6, rfl, hj⟩
    rw [rng_len] at hj
    walk_at "sx"
    rw [fin_self]
    exact h none fun i hi => hj i (by omega)
end
end Lw
/-! K61p: law k61 answers True. -/
namespace Lw
open PySem Dn
open L2 hiding bin
theorem cut_mem {ns : List Int} {lo hi : Option Int} {z : Int} (h : z ∈ cutI ns lo hi) : z ∈ ns := by
  unfold cutI at h
  exact List.mem_of_mem_drop (List.mem_of_mem_take h)
theorem fin_bl {st0 st : List MO} {b : Bool} : (fin st0 st (.bl b)).1 = .bl b := by
  have e : (PV.bl b).frz st0.length st = .bl b := frz_pl rfl
  unfold fin
  split
  · rfl
  · split
    · exact e
    · rfl
theorem cpow9 : L2.CPow 10 9 := by decide +kernel
theorem cpow30 : L2.CPow 10 30 := by decide +kernel
theorem in6 {a b c d e f lo hi : Int} (h1 : lo ≤ a ∧ a ≤ hi) (h2 : lo ≤ b ∧ b ≤ hi) (h3 : lo ≤ c ∧ c ≤ hi) (h4 : lo ≤ d ∧ d ≤ hi) (h5 : lo ≤ e ∧ e ≤ hi) (h6 : lo ≤ f ∧ f ≤ hi) : ∀ x ∈ [a, b, c, d, e, f], lo ≤ x ∧ x ≤ hi := fun x hx => by
  simp only [List.mem_cons, List.not_mem_nil, or_false] at hx
  rcases hx with rfl | rfl | rfl | rfl | rfl | rfl <;> assumption
theorem cpow6 : L2.CPow 10 6 := by decide +kernel
theorem cpow7 : L2.CPow 10 7 := by decide +kernel
theorem cpow24 : L2.CPow 10 24 := by decide +kernel
theorem e6 : (10 : Int) ^ (6 : Int).toNat = 1000000 := by decide +kernel
theorem e7 : (10 : Int) ^ (7 : Int).toNat = 10000000 := by decide +kernel
theorem e24 : (10 : Int) ^ (24 : Int).toNat = 1000000000000000000000000 := by decide +kernel
theorem e30 : (10 : Int) ^ (30 : Int).toNat = 1000000000000000000000000000000 := by decide +kernel
local macro_rules | `(tactic| walk_at "sx") => `(tactic| try simp only [ok_ret, ok_bnd, ok_bin, ok_binL, ok_var, varK_val, varK_own, ok_brw, brwK_some, pv_val, pv_own, ok_asB, asBK_bl, ok_andT, ok_orT, ok_notT, ok_iteT, ok_andV, ok_notV, blK_bl,
  ok_argN, ok_argC, ok_fits, ok_tupM, ok_lstM, ok_parN, ok_parS, intK_int, ok_slM, ok_joinM, strK_str, ok_itemsM, ok_rngM, seqK_nx, seqK_rt, seqK_bk, seqK_ct, ok_ifM, ok_retM, ok_dropM, ok_skipM, ok_asgM, ok_asgO, ok_par2, ok_par2VO, ok_par2OO, ok_par3,
  ok_callM, rtK_rt, rtK_nx, ok_loopM, ok_lcM, ok_dispM, ok_prsN, ok_prsC, ok_hget0, getK_some, ok_hputM, putK0, pc, pb, pl, ppb, ppl, plen, ok_add, ok_addS, ok_addT, ok_addL, ok_sub, ok_mul, ok_ixL, ok_ixT, ok_unp, unpK_tup, ok_set0, ok_setC, ok_app, ok_pop, ok_chk', chkK_some, flK_nx, flK_ct, flK_bk, flK_rt, sl_L, sl_T, sl_S, it_L, it_T, ok_sortL, ok_sortT, wip, ok_div, ok_mod, ok_pow, ok_rep, ok_ord, ok_fInt, ok_fAbs, ok_fNeg, ok_lenL, ok_lenT, ok_lenS, ok_fListL, ok_fListT, ok_fTupleL, ok_fTupleT, ok_eqI, ok_eqB, ok_eqS,
  okF_ok, okF_exc, ok_runM, ok_appA, ok_len1, ok_chain, isNonB_non, isNonB_int, isNonB_bl, isNonB_str, isNonB_tup, isNonB_lst, isNonB_obj, ok_isN, ok_max, ok_min, isi_int_int, isi_int_bl, isi_int_non, isi_int_str, isi_int_tup, isi_int_lst, isi_bool_int, isi_bool_bl, isi_str_str, isi_str_int, isi_str_bl, isi_str_non, isi_str_tup, isi_str_lst, isi_tuple_tup, isi_tuple_int, isi_tuple_bl, isi_tuple_non, isi_tuple_str, isi_tuple_lst,
  ok_conM, ok_fputM, fputK_new, conV_new, ok_methM,
  List.map_cons, List.map_nil, List.replicate_succ, List.replicate_zero, List.cons_append, List.nil_append, List.append_nil, List.getElem?_cons_zero, List.getElem?_cons_succ, List.set_cons_zero, List.set_cons_succ, Nat.reduceSub, decide_eq_true_eq, if_true, if_false, Bool.false_eq_true, Bool.not_true, Bool.not_false, beq_self_eq_true, Bool.true_eq_false, bne_self_eq_false, Bool.bne_true, Bool.bne_false, Nat.zero_add, Nat.reduceAdd, true_and, and_true, reduceCtorEq, List.length_cons, List.length_nil, ok_ordU, ok_ordS, ok_itemsDM, itd_L, itd_T, itd_D, ok_subT, ok_subL, ok_truT, tru_bl, ok_inTS, ok_loopU, ok_enumM, en_L, en_T, ok_lenUL, ok_lenUT, ok_hndM, ok_dcL, ok_par2OV', a20, a21, sz0, sz1, sz2, sz3, sz4, sz5, sz6, sz7, sz8, sz9, sz10, sz11, sz12, ok_sortUL])
set_option maxHeartbeats 8000000 in
theorem sp_goal {n : Nat} {B : Int} {cells : List Int} {g st : List MO} {ss : List Str} {os : List OfV} {Q : PV → List MO → Prop} (hbt : Bt cells) (hp : Pn cells B g st) (hB : B < 10000000) (hr : RawOk ss os)
    (h : ∀ (c : Str) (k : Int) st', c ∈ ss → 0 ≤ k ∧ k ≤ 1000000000000000000000000000000 → Pn cells (B + 10) g st' → Q (.tup [.str c, .int k]) st') : OkF (m_law_goal n [.hnd 0, rawV ss os] st) Q := by
  have hz : sizeLine = 16777216 := sizeLine_eq
  have hst := hp
  have hsl := hr.sl
  have hs0 : 0 < ss.length := List.length_pos_iff.mpr hr.ne
  unfold m_law_goal
  refine okF_fnT rfl ?_
  unfold b_law_goal
  refine ok_seq ?_
  walk_at "sx"
  refine sp_draw hbt hp (by omega) (by omega) fun a st1 a0 a1 hp1 => ?_
  walk_at "sx"
  refine sp_draw hbt hp1 (by omega) (by omega) fun b st2 b0 b1 hp2 => ?_
  walk_at "sx"
  refine ⟨cpow9, ?_⟩
  refine sp_draw hbt hp2 (by decide) (by omega) fun c st3 c0 c1 hp3 => ?_
  walk_at "sx"
  refine ⟨cpow30, ?_⟩
  have c1 : c < 1000000000 := c1
  refine picki hbt hp3 (xs := [0, 1, a, b, c, 10 ^ (30 : Int).toNat]) (lo := 0) (hi := 1000000000000000000000000000000) (by simp) (by omega) rfl (in6 (by decide) (by decide) (by omega) (by omega) (by omega) (by decide)) fun k st4 k0 k1 hp4 => ?_
  walk_at "sx"
  unfold rawV
  rw [ok_subC (v := .lst (ss.map .str)) (by rfl)]
  refine sp_pickL hbt hp4 (by rw [List.length_map]; omega) (by omega) fun v st5 hv hp5 => ?_
  obtain ⟨x, rfl, hx⟩ := mem_nm hv
  walk_at "sx"
  rw [fin_pn hst hp5]
  exact h x k st5 hx ⟨k0, k1⟩ (hp5.mono (by omega))
set_option maxHeartbeats 8000000 in
theorem sp_amount {n : Nat} {B : Int} {cells : List Int} {g st : List MO} {Q : PV → List MO → Prop} (hbt : Bt cells) (hp : Pn cells B g st) (hB : B < 10000000)
    (h : ∀ (k : Int) st', 0 ≤ k ∧ k ≤ 1000000000000000000000000000000 → Pn cells (B + 10) g st' → Q (.int k) st') : OkF (m_law_amount n [.hnd 0] st) Q := by
  have hz : sizeLine = 16777216 := sizeLine_eq
  have hst := hp
  unfold m_law_amount
  refine okF_fnT rfl ?_
  unfold b_law_amount
  refine ok_seq ?_
  walk_at "sx"
  refine ⟨cpow6, ?_⟩
  rw [e6]
  refine sp_draw hbt hp (by omega) (by omega) fun a st1 a0 a1 hp1 => ?_
  walk_at "sx"
  refine ⟨cpow24, ?_⟩
  rw [e24]
  refine ⟨cmul100 (by omega) (by omega), cpow6, ?_⟩
  refine sp_draw hbt hp1 (by omega) (by omega) fun b st2 b0 b1 hp2 => ?_
  walk_at "sx"
  refine sp_draw hbt hp2 (by omega) (by omega) fun c st3 c0 c1 hp3 => ?_
  walk_at "sx"
  refine sp_draw hbt hp3 (by omega) (by omega) fun d st4 d0 d1 hp4 => ?_
  walk_at "sx"
  refine ⟨cpow7, ?_⟩
  rw [e7]
  refine sp_draw hbt hp4 (by omega) (by omega) fun e st5 h0 h1 hp5 => ?_
  walk_at "sx"
  refine ⟨cpow30, ?_⟩
  rw [e30]
  refine picki hbt hp5 (xs := [c, d, 0, e, a * 1000000000000000000000000 + b, 1000000000000000000000000000000]) (lo := 0) (hi := 1000000000000000000000000000000) (by simp) (by omega) rfl (in6 (by omega) (by omega) (by decide) (by omega) (by omega) (by decide)) fun k st6 k0 k1 hp6 => ?_
  walk_at "sx"
  rw [fin_pn hst hp6]
  exact h k st6 ⟨k0, k1⟩ (hp6.mono (by omega))
local macro_rules | `(tactic| walk_at "sx") => `(tactic| try simp only [ok_ret, ok_bnd, ok_bin, ok_binL, ok_var, varK_val, varK_own, ok_brw, brwK_some, pv_val, pv_own, ok_asB, asBK_bl, ok_andT, ok_orT, ok_notT, ok_iteT, ok_andV, ok_notV, blK_bl,
  ok_argN, ok_argC, ok_fits, ok_tupM, ok_lstM, ok_parN, ok_parS, intK_int, ok_slM, ok_joinM, strK_str, ok_itemsM, ok_rngM, seqK_nx, seqK_rt, seqK_bk, seqK_ct, ok_ifM, ok_retM, ok_dropM, ok_skipM, ok_asgM, ok_asgO, ok_par2, ok_par2VO, ok_par2OO, ok_par3,
  ok_callM, rtK_rt, rtK_nx, ok_loopM, ok_lcM, ok_dispM, ok_prsN, ok_prsC, ok_hget0, getK_some, ok_hputM, putK0, pc, pb, pl, ppb, ppl, plen, ok_add, ok_addS, ok_addT, ok_addL, ok_sub, ok_mul, ok_ixL, ok_ixT, ok_unp, unpK_tup, ok_set0, ok_setC, ok_app, ok_pop, ok_chk', chkK_some, flK_nx, flK_ct, flK_bk, flK_rt, sl_L, sl_T, sl_S, it_L, it_T, ok_sortL, ok_sortT, wip, ok_div, ok_mod, ok_pow, ok_rep, ok_ord, ok_fInt, ok_fAbs, ok_fNeg, ok_lenL, ok_lenT, ok_lenS, ok_fListL, ok_fListT, ok_fTupleL, ok_fTupleT, ok_eqI, ok_eqB, ok_eqS,
  okF_ok, okF_exc, ok_runM, ok_appA, ok_len1, ok_chain, isNonB_non, isNonB_int, isNonB_bl, isNonB_str, isNonB_tup, isNonB_lst, isNonB_obj, ok_isN, ok_max, ok_min, isi_int_int, isi_int_bl, isi_int_non, isi_int_str, isi_int_tup, isi_int_lst, isi_bool_int, isi_bool_bl, isi_str_str, isi_str_int, isi_str_bl, isi_str_non, isi_str_tup, isi_str_lst, isi_tuple_tup, isi_tuple_int, isi_tuple_bl, isi_tuple_non, isi_tuple_str, isi_tuple_lst,
  ok_conM, ok_fputM, fputK_new, conV_new, ok_methM,
  List.map_cons, List.map_nil, List.replicate_succ, List.replicate_zero, List.cons_append, List.nil_append, List.append_nil, List.getElem?_cons_zero, List.getElem?_cons_succ, List.set_cons_zero, List.set_cons_succ, Nat.reduceSub, decide_eq_true_eq, if_true, if_false, Bool.false_eq_true, Bool.not_true, Bool.not_false, beq_self_eq_true, Bool.true_eq_false, bne_self_eq_false, Bool.bne_true, Bool.bne_false, Nat.zero_add, Nat.reduceAdd, true_and, and_true, reduceCtorEq, List.length_cons, List.length_nil, ok_ordU, ok_ordS, ok_itemsDM, itd_L, itd_T, itd_D, ok_subT, ok_subL, ok_truT, tru_bl, ok_lenUL, ok_lenUT, a20, a21, sz0, sz1, sz2, sz3, sz4, sz5, sz6, sz7, sz8, isNonB_opt, raw_ends, raw_offs, ok_apD, ok_repO])
set_option maxHeartbeats 16000000 in
theorem law_true (ns : List Int) (hns : ns.length ≤ 63) (hb : ∀ z ∈ ns, z.natAbs.log2 ≤ 1048576) : ∃ n st, m_law n [.scr ns] [] = .ok (.bl true) st := by
  have hz : sizeLine = 16777216 := sizeLine_eq
  refine ⟨100001, ?_⟩
  have hn : 100000 < 100001 := by decide
  generalize 100001 = n at hn
  have hk : OkF (m_law n [.scr ns] []) (fun d _ => d = .bl true) := by
    unfold m_law
    refine okF_fnT rfl ?_
    unfold b_law
    refine ok_seq ?_
    walk_at "sx"
    refine sp_pen ?_
    have hbt : Bt (cutI ns none (some 63)) := fun z hz => hb z (cut_mem hz)
    generalize cutI ns none (some 63) = cells at hbt
    walk_at "sx"
    rw [ok_seqM]
    walk_at "sx"
    have hsc : ∀ {Q : PV → S → Prop} {s : S}, Okx (fun _ _ => False) (lenU tl_len n (.scr ns)) s Q ↔ Q (.int ns.length) s := Iff.rfl
    rw [hsc]
    walk_at "sx"
    obtain ⟨m, hm, hm2⟩ : ∃ m : Nat, 2 + min 2 (ns.length : Int) = (m : Int) ∧ m ≤ 4 := ⟨2 + min 2 ns.length, by omega, by omega⟩
    rw [hm]
    refine ⟨_, rngP_nat (by omega) (by omega), ?_⟩
    refine ok_for (fun j s => (j : Int) ≤ 4 ∧ ∃ (es : List (Option SV)) (st : List MO), s = ⟨[some (.val (.scr ns)), some (.val (.hnd 0))] ++ es, st⟩ ∧ es.length = 12 ∧ Pn cells (10000 * (j : Int)) [] st) ⟨by omega, List.replicate 12 none, [.dic (pen cells 0 0)], rfl, rfl, 0, 0, rfl, by decide, by decide, by decide⟩ ?_ ?_
    · rintro j x s hx ⟨hj2, es, st, rfl, hes, hp⟩
      obtain ⟨rfl, hj⟩ := rng_get hx
      obtain ⟨e2, e3, e4, e5, e6, e7, e8, e9, e10, e11, e12, e13, rfl⟩ : ∃ a b c d e f g h i j k l, es = [a, b, c, d, e, f, g, h, i, j, k, l] := by
        match es, hes with
        | [a, b, c, d, e, f, g, h, i, j, k, l], _ => exact ⟨a, b, c, d, e, f, g, h, i, j, k, l, rfl⟩
      refine ok_seq ?_
      walk_at "sx"
      refine sp_raw (by omega) hbt hp (by omega) (by omega) (by omega) fun ss os st2 hr hp2 => ?_
      walk_at "sx"
      refine ok_seq ?_
      walk_at "sx"
      rw [eq_law_made hr.ne hr.sl hr.nm hr.nd hr.wf hr.ends hr.on hr.ol]
      walk_at "sx"
      have hsl := hr.sl
      have hs0 : 0 < ss.length := List.length_pos_iff.mpr hr.ne
      refine sp_pickL hbt hp2 (by rw [List.length_map]; omega) (by omega) fun v st3 hv hp3 => ?_
      obtain ⟨c, rfl, hc⟩ := mem_nm hv
      walk_at "sx"
      refine sp_amount hbt hp3 (by omega) fun a st4 ha hp4 => ?_
      walk_at "sx"
      refine ok_seq ?_
      rw [show (PV.tup [.str c, .int a]) = holdV c a from rfl]
      walk_at "sx"
      refine sp_goal hbt hp4 (by omega) hr fun gc k st5 hgc hk hp5 => ?_
      walk_at "sx"
      have K := hr.mk'
      have hmem : ∀ {c : Str}, c ∈ ss → c ∈ sortS ss := fun h => (sortS_perm ss).mem_iff.mpr h
      have hperm := sortO_perm hr.on
      refine ok_seq ?_
      refine Okx.imp (Q := fun fl s => fl = .nx ∧ ∃ (far : Nat) (st6 : List MO), 70 ≤ far ∧ far ≤ 1000 ∧ Pn cells (10000 * (j : Int) + 9000) [] st6 ∧ s = ⟨[some (.val (.scr ns)), some (.val (.hnd 0)), some (.val (.int j)), some (.val (rawV ss os)), some (.val (mkt (sortS ss) (sortO os))), some (.val (holdV c a)), some (.val (.str gc)), some (.val (.int k)), some (.val (.int far)), e9, e10, e11, e12, e13], st6⟩) ?_ ?_
      · walk_at "sx"
        refine sp_draw hbt hp5 (by omega) (by omega) fun d8 st6 _ _ hp6 => ?_
        walk_at "sx"
        by_cases h : (d8 == 0) = true
        · rw [if_pos h]
          exact ⟨1000, st6, by decide, by decide, hp6.mono (by omega), rfl⟩
        · rw [if_neg h]
          exact ⟨70, st6, by decide, by decide, hp6.mono (by omega), rfl⟩
      rintro fl s ⟨rfl, far, st6, hf1, hf2, hp6, rfl⟩
      rw [seqK_nx]
      refine ok_seq ?_
      walk_at "sx"
      refine sp_law_levels hr hc hgc ha hf2 fun x hx => ?_
      walk_at "sx"
      have hx2 : IsFew (fun j => levL (sortO os) (startL c a) j gc) k far x := by
        have e : (fun j => levL (sortO os) (startL c a) j gc) = fun j => levL os (startL c a) j gc := funext fun j => by rw [levL_perm hperm]
        rw [e]
        exact hx
      have hxl : ∀ j, x = some j → j ≤ 1000 := fun i e => by
        rw [e] at hx
        have := hx.1
        omega
      have hdue : ∀ (m : Nat) {env : Dn.Env} {st : List MO} {Q : PV → S → Prop} (c60 : M PV), (∀ Q', Okx (fun _ _ => False) c60 ⟨env, st⟩ Q' ↔ Q' (.int (m : Int)) ⟨env, st⟩) → env[9]? = some (some (.val (optN x))) → Q (optN (cutF m x)) ⟨env, st⟩ → Okx (fun _ _ => False) (iteT (andT (asB (isN true (var 9))) (asB (bin (var 9) c60 opLeU))) (var 9) (ret .non)) ⟨env, st⟩ Q := by
        intro m env st Q c60 hc he hq
        walk_at "sx"
        rw [he]
        cases x with
        | none =>
          unfold optN
          walk_at "sx"
          exact hq
        | some i =>
          unfold optN at he ⊢
          walk_at "sx"
          rw [he]
          walk_at "sx"
          rw [hc]
          walk_at "sx"
          unfold cutF at hq
          dsimp only at hq
          by_cases h : i ≤ m
          · rw [if_pos h] at hq
            rw [if_pos (by simpa using h)]
            rw [he]
            exact hq
          · rw [if_neg h] at hq
            rw [if_neg (by simpa using h)]
            exact hq
      refine ok_seq ?_
      rw [ok_asgM]
      refine hdue 60 _ (fun Q' => ok_ret) rfl ?_
      walk_at "sx"
      rw [ok_seqM]
      walk_at "sx"
      refine ⟨_, rngP_nat (by decide) (by decide), ?_⟩
      refine ok_for (fun _ s => ∃ e11 : Option SV, s = ⟨[some (.val (.scr ns)), some (.val (.hnd 0)), some (.val (.int j)), some (.val (rawV ss os)), some (.val (mkt (sortS ss) (sortO os))), some (.val (holdV c a)), some (.val (.str gc)), some (.val (.int k)), some (.val (.int far)), some (.val (optN x)), some (.val (optN (cutF 60 x))), e11, e12, e13], st6⟩) ⟨_, rfl⟩ ?_ ?_
      · rintro t y s _ ⟨e11, rfl⟩
        walk_at "sx"
        refine sp_fewest (m := 60) (by omega) K (hmem hc) (hmem hgc) ha hk (by decide) fun y hy => ?_
        have := hy.uniq (hx2.cut (by omega))
        subst this
        obtain ⟨tx, htx⟩ := optN_repr (x := cutF 60 x) fun i e => by
          rw [e] at hy
          have := hy.1
          omega
        rw [ok_reprR htx]
        walk_at "sx"
        rw [ok_reprR htx]
        walk_at "sx"
        exact ⟨_, rfl⟩
      rintro s ⟨e11, rfl⟩
      rw [seqK_nx]
      refine ok_seq ?_
      walk_at "sx"
      refine sp_draw hbt hp6 (by omega) (by omega) fun d st7 d0 d1 hp7 => ?_
      walk_at "sx"
      refine ok_seq ?_
      refine Okx.imp (Q := fun fl s => fl = .nx ∧ ∃ (bs : List Nat), (∀ b ∈ bs, b ≤ far) ∧ s = ⟨[some (.val (.scr ns)), some (.val (.hnd 0)), some (.val (.int j)), some (.val (rawV ss os)), some (.val (mkt (sortS ss) (sortO os))), some (.val (holdV c a)), some (.val (.str gc)), some (.val (.int k)), some (.val (.int far)), some (.val (optN x)), some (.val (optN (cutF 60 x))), e11, some (.val (.lst (bs.map fun (b : Nat) => PV.int b))), e13], st7⟩) ?_ ?_
      · obtain ⟨dn, rfl⟩ := Int.eq_ofNat_of_zero_le d0
        cases x with
        | none =>
          unfold optN
          walk_at "sx"
          refine ⟨[0, 60, far, dn], fun b hb => ?_, rfl⟩
          simp only [List.mem_cons, List.not_mem_nil, or_false] at hb
          rcases hb with rfl | rfl | rfl | rfl <;> omega
        | some i =>
          have hi := hx.1
          unfold optN
          walk_at "sx"
          walk_at "sx"
          rw [ok_fIntB, rep1]
          walk_at "sx"
          by_cases h : (0 : Int) < (i : Int)
          · rw [if_pos (by simpa using h)]
            walk_at "sx"
            refine ⟨[0, 60, far, dn, i, i - 1], fun b hb => ?_, ?_⟩
            · simp only [List.mem_cons, List.not_mem_nil, or_false] at hb
              rcases hb with rfl | rfl | rfl | rfl | rfl | rfl <;> omega
            · have e : ((i - 1 : Nat) : Int) = (i : Int) - 1 := by omega
              simp only [List.map_cons, List.map_nil, e]
              rfl
          · rw [if_neg (by simpa using h)]
            walk_at "sx"
            refine ⟨[0, 60, far, dn, i], fun b hb => ?_, rfl⟩
            simp only [List.mem_cons, List.not_mem_nil, or_false] at hb
            rcases hb with rfl | rfl | rfl | rfl | rfl <;> omega
      rintro fl s ⟨rfl, bs, hbs, rfl⟩
      rw [seqK_nx]
      walk_at "sx"
      refine ok_for (fun _ s => ∃ e10 e13 : Option SV, s = ⟨[some (.val (.scr ns)), some (.val (.hnd 0)), some (.val (.int j)), some (.val (rawV ss os)), some (.val (mkt (sortS ss) (sortO os))), some (.val (holdV c a)), some (.val (.str gc)), some (.val (.int k)), some (.val (.int far)), some (.val (optN x)), e10, e11, some (.val (.lst (bs.map fun (b : Nat) => PV.int b))), e13], st7⟩) ⟨_, _, rfl⟩ ?_ ?_
      · rintro t y s hy ⟨e10, e13, rfl⟩
        rw [List.getElem?_map] at hy
        obtain ⟨b, hb', rfl⟩ := Option.map_eq_some_iff.mp hy
        have hbf := hbs b (List.mem_of_getElem? hb')
        refine ok_seq ?_
        rw [ok_asgM]
        refine hdue b _ (fun Q' => by rw [ok_var]; exact Iff.rfl) rfl ?_
        walk_at "sx"
        refine sp_fewest (m := b) (by omega) K (hmem hc) (hmem hgc) ha hk (by omega) fun y hy => ?_
        have := hy.uniq (hx2.cut hbf)
        subst this
        obtain ⟨tx, htx⟩ := optN_repr (x := cutF b x) fun i e => by
          rw [e] at hy
          have := hy.1
          omega
        rw [ok_reprR htx]
        walk_at "sx"
        rw [ok_reprR htx]
        walk_at "sx"
        exact ⟨_, _, rfl⟩
      rintro s ⟨e10, e13, rfl⟩
      exact ⟨by omega, _, _, rfl, rfl, hp7.mono (by omega)⟩
    · rintro s ⟨hj2, es, st, rfl, hes, hp⟩
      walk_at "sx"
      exact fin_bl
  obtain ⟨d, st, e, q⟩ := OkFx.ex hk
  exact ⟨st, by rw [e, q]⟩
end Lw
open PySem PySem.W PySem.Calls PyProof.Rows
set_option maxRecDepth 100000 in
set_option maxHeartbeats 0 in
theorem PySem.Challenge.cw_rounddown_k61_fewest_exchanges_by_levels_holds : PySem.Challenge.rw_rounddown_k61_fewest_exchanges_by_levels.Holds := by
  w_on; o_law
  refine HandSHeadRun.head_any (r := OpenLaw.row PySem.Challenge.rw_rounddown_k61_fewest_exchanges_by_levels) (q := view (OpenLaw.row PySem.Challenge.rw_rounddown_k61_fewest_exchanges_by_levels).prog [69]) (H := Lw.hk) (ob := Lw.ob) (M := 40000) (loose := Lw.nms) (d := HandSHeadRun.topDef (OpenLaw.row PySem.Challenge.rw_rounddown_k61_fewest_exchanges_by_levels).prog 69) (kwd := []) Lw.ob_eq
    (by kernel_rfl) (fun s => by kernel_rfl) Lw.run (by kernel_rfl) (by kernel_rfl) (by kernel_rfl) (by rfl) (by first | assumption | decide +kernel) (by decide +kernel) ⟨rfl, rfl, rfl, rfl, rfl, by decide +kernel⟩ ?hw ?hc
  case hw => w_witness2
  case hc =>
    refine Dn.law_denE (l := PySem.Challenge.rw_rounddown_k61_fewest_exchanges_by_levels) (k := 10) (x := "_law_script") (m := Lw.m_law) rfl (by kernel_rfl) ⟨rfl, by decide, by decide⟩ ?F Lw.law_true
    intro w mg fa h Y G hmg0
    obtain ⟨K, KX, c⟩ := Y
    have hmg : mg ("law" : PySem.Str) = some (.ref fa) := by
      have e : (HandSHeadRun.topDef (OpenLaw.row PySem.Challenge.rw_rounddown_k61_fewest_exchanges_by_levels).prog 69).name = ("law" : PySem.Str) := by kernel_rfl
      rw [← e]
      exact hmg0
    exact ⟨K, KX, Lw.facts KX G hmg c⟩
